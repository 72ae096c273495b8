import PyProof.Rows.All
import Wide.All
import OpenK.AllK
import Wide.FinOn
import HandS.ForMost
import HandS.Flow
import HandS.Style
import HandS.IsInst
import HandS.WideBits
import HandS.Wide
import HandS.TupAny
import HandS.TupMul
import HandS.Replace
import HandS.RaiseMore
import PyProof.Rows.StrOr
import HandS.FStr
import HandS.Conv
import HandS.Small
import HandS.ExcOwn
import HandS.ExcCtx
import HandS.Lambda
import HandS.HotCalls
import HandS.Defaults
import HandS.ExcIs
import HandS.ExcInit
import HandS.HeadEnd
import HandS.HeadHook4
import HandS.HeadWalk
import HandS.NestedK
import HandS.Words
import HandS.WordsExc
import HandS.Head0
import HandS.Head1
import HandS.Head2
import KE.KStateDown
import Open.Row
import PySem.Challenge.RW_wheelsky_k71_fraction_words
set_option Elab.async false
set_option linter.all false
section
set_option Elab.async false
set_option linter.all false
/-! PL1: pure data, the evaluator's heap, the IR and its evaluator (deterministic). -/
namespace PL
open PySem

inductive DKey where
  | i (n : Int) | s (x : List Nat)
  deriving DecidableEq
inductive D where
  | non | bl (b : Bool) | int (i : Int) | str (s : List Nat)
  | tup (ds : List D) | lst (ds : List D) | scr (ns : List Int)
  | dk (ks : List DKey) (vs : List D) | obj (c : Nat) (fs : List Nat) (vs : List D) | ref (n : Nat)
inductive HC where
  | lst (ds : List D) | dk (ks : List DKey) (vs : List D) | ins (c : Nat) (fs : List Nat) (vs : List D)
structure Hs where
  nx : Nat
  cells : Nat → Option HC
structure Exn where
  cls : Nat
  args : List D
inductive Sl where
  | non | val (d : D) | own (c : HC) | fn | exn (e : Exn)
abbrev Env := List Sl
inductive Res (α : Type) where
  | ok (a : α) (h : Hs) | exc (e : Exn) (h : Hs) | bad
abbrev M (α : Type) := Hs → Res α
def M.ret {α : Type} (a : α) : M α := fun h => .ok a h
def M.bnd {α β : Type} (m : M α) (f : α → M β) : M β := fun h => match m h with
  | .ok a h' => f a h'
  | .exc e h' => .exc e h'
  | .bad => .bad
instance : Monad M where
  pure := M.ret
  bind := M.bnd
def M.fail {α : Type} : M α := fun _ => .bad
def M.opt {α : Type} : Option α → M α
  | some a => M.ret a
  | none => M.fail
def M.thr {α : Type} (e : Exn) : M α := fun h => .exc e h

def line : Nat := 16777216
def st (s : List Nat) : Str := ⟨s.toArray⟩
/-- a new cell -/
def Hs.new (h : Hs) (c : HC) : Hs := ⟨h.nx + 1, fun n => if n = h.nx then some c else h.cells n⟩
def Hs.put (h : Hs) (n : Nat) (c : HC) : Hs := ⟨h.nx, fun m => if m = n then some c else h.cells m⟩
def alloc (c : HC) : M D := fun h => .ok (.ref h.nx) (h.new c)
def cellAt (n : Nat) : M HC := fun h => match h.cells n with
  | some c => .ok c h
  | none => .bad
def putAt (n : Nat) (c : HC) : M Unit := fun h => match h.cells n with
  | some _ => .ok () (h.put n c)
  | none => .bad

/-! ### IR -/
inductive Ty where
  | int | bool | str | list | tuple | dict | cls (c : Nat)
  deriving DecidableEq
inductive B1 where
  | len | abs | int | str | sum | all | any | min | max | tuple | bool
  deriving DecidableEq
inductive B2 where
  | min | max | divmod
  deriving DecidableEq
/-- methods of texts -/
inductive SM where
  | startswith | partition | join | index | bits | upper | lindex | count
  deriving DecidableEq
inductive Tg where
  | n (i : Nat) | t (ts : List Tg)
inductive Ex where
  | c (d : D) | v (i : Nat) | g (x : Nat)
  | bin (op : Operator) (a b : Ex) | neg (a : Ex) | cmp (op : CmpOp) (a b : Ex) | chain (o p : CmpOp) (a b c : Ex)
  | and_ (a b : Ex) | or_ (a b : Ex) | not_ (a : Ex) | ite (t a b : Ex)
  | tup (es : List Ex) | ix (a b : Ex) | sl (a lo hi : Ex) | nul
  | isi (ts : List Ty) (one : Bool) (a : Ex) | b1 (k : B1) (a : Ex) | b2 (k : B2) (a b : Ex) | sm (k : SM) (a : Ex) (es : List Ex)
  | js (es : List Ex) | fm (a : Ex)
  | call (f j : Nat) (es : List Ex) | callk (f : Nat) (p : Nat) (es ks : List Ex)
  | make (c : Nat) (es : List Ex) | makek (c : Nat) (p : Nat) (es ks : List Ex) | meth (m : Nat) (o : Ex) (es : List Ex) | prop (m : Nat) (o : Ex) | fld (f : Nat) (o : Ex)
  | lam (f : Nat) (a : Ex) | lcall (i : Nat) | eis (i : Nat) (t : Option Nat) | efld (i n : Nat)
  | olen (i : Nat) | oix (i : Nat) (a : Ex) | oin (neg : Bool) (a : Ex) (i : Nat) | obool (i : Nat)
  | happ (o a : Ex) | hpop (o : Ex) | hpopat (o a : Ex) | hrev (o : Ex) | hclear (o : Ex)
  | d0 | fz (l : Ex) | hp (l : Ex)
  | L (es : List Ex) | Lcp (a : Ex) | Lr1 (a : Ex) | Lr2 (a b : Ex) | Lc (own : List Nat) (tg : Tg) (it cond elt : Ex)
  | Lsl (a lo hi : Ex) | Lcat (a b : Ex) | Lrep (a b : Ex) | Lspl (a b : Ex)
  | Il (a : Ex) | Ir1 (a : Ex) | Ir2 (a b : Ex) | Ir3 (a b c : Ex) | Ien (a : Ex) | Izip (a b : Ex)
  | bad
inductive St where
  | expr (e : Ex) | ret (e : Ex) | retN | iff (t : Ex) (a b : List St) | whl (t : Ex) (b : List St) | fr (tg : Tg) (it : Ex) (b : List St)
  | set (i : Nat) (e : Ex) | setT (tg : Tg) (e : Ex) | par (i j : Nat) (a b : Ex)
  | own (i : Nat) (l : Ex) | owd (i : Nat) | fzs (i : Nat) | oapp (i : Nat) (e : Ex) | oset (i : Nat) (a e : Ex)
  | hset (o a e : Ex) | fset (o : Ex) (f : Nat) (e : Ex) | fdel
  | tryE (i c m : Nat) (pre : Option (List Nat)) (a : Nat) (s : List St)
  | rais (c : Nat) (es : List Ex) | brk | cont | pass | bad

/-! ### values -/
def truthD : D → Option Bool
  | .non => some false
  | .bl b => some b
  | .int i => some (i != 0)
  | .str s => if s.length ≤ line then some (s.length != 0) else none
  | .tup ds => some (!ds.isEmpty)
  | .lst ds => some (!ds.isEmpty)
  | .dk ks _ => some (!ks.isEmpty)
  | _ => none
def truthC : HC → Option Bool
  | .lst ds => some (!ds.isEmpty)
  | .dk ks _ => some (!ks.isEmpty)
  | _ => none
def truth : D → M Bool
  | .ref n => do let c ← cellAt n; M.opt (truthC c)
  | d => M.opt (truthD d)
/-- the index that is meant -/
def ixD (n : Nat) (i : Int) : Option Nat := if 0 ≤ i then (if i < n then some i.toNat else none) else (if -i ≤ n then some (i + n).toNat else none)
def getD {α : Type} (xs : List α) (i : Int) : Option α := (ixD xs.length i).bind fun j => xs[j]?
/-- the place of a slice's end -/
def cutP (n dflt : Nat) : Option Int → Nat
  | none => dflt
  | some i => if i < 0 then (i + n).toNat else min i.toNat n
def cutD {α : Type} (xs : List α) (lo hi : Option Int) : List α := (xs.drop (cutP xs.length 0 lo)).take (cutP xs.length xs.length hi - cutP xs.length 0 lo)
def mulOk (i j : Int) : Bool := decide (i.natAbs.log2 + j.natAbs.log2 < 100000000)
def binP : Operator → D → D → Option D
  | .Add, .int i, .int j => some (.int (i + j))
  | .Add, .str x, .str y => if x.length + y.length ≤ line then some (.str (x ++ y)) else none
  | .Add, .tup x, .tup y => if x.length + y.length ≤ line then some (.tup (x ++ y)) else none
  | .Sub, .int i, .int j => some (.int (i - j))
  | .Mult, .int i, .int j => if mulOk i j then some (.int (i * j)) else none
  | .Mult, .str x, .int n => if -1000000 ≤ n ∧ n ≤ 10000 ∧ x.length = 1 then some (.str (List.replicate n.toNat x).flatten) else none
  | .FloorDiv, .int i, .int j => if j ≠ 0 ∧ j.natAbs.log2 < 9000 then some (.int (i.fdiv j)) else none
  | .Mod, .int i, .int j => if j ≠ 0 then some (.int (i.fmod j)) else none
  | .Pow, .int i, .int j => if 0 ≤ j ∧ j ≤ 1000 ∧ i.natAbs < 1000 then some (.int (i ^ j.toNat)) else none
  | .LShift, .int i, .int j => if 0 ≤ j ∧ j ≤ 1000 ∧ i.natAbs < 1000 then some (.int (i * 2 ^ j.toNat)) else none
  | .RShift, .int i, .int j => if 0 ≤ j then some (.int (i / 2 ^ j.toNat)) else none
  | .BitAnd, .int i, .int j => some (.int (Builtin.bitAnd i j))
  | _, _, _ => none
/-- flat values -/
def flatD : D → Bool
  | .non => true
  | .bl _ => true
  | .int _ => true
  | .str _ => true
  | _ => false
def b2n (b : Bool) : Int := if b then 1 else 0
mutual
/-- the library's data, of plain data -/
def pdD : D → Option PyData
  | .non => some .none
  | .bl b => some (.bool b)
  | .int i => some (.int i)
  | .str s => some (.str (st s))
  | .tup ds => (pdDs ds).map .tuple
  | .lst ds => (pdDs ds).map .list
  | _ => none
def pdDs : List D → Option (List PyData)
  | [] => some []
  | d :: ds => (pdD d).bind fun p => (pdDs ds).map fun q => p :: q
end
/-- == of plain data -/
def eqPd (a b : D) : Option Bool := (pdD a).bind fun p => (pdD b).bind fun q => if SeqAt.shaped p && SeqAt.shaped q then some (PyData.eqv p q) else none
def eqD : D → D → Option Bool
  | .int i, .int j => some (decide (i = j))
  | .str x, .str y => some (decide (x = y))
  | .bl a, .bl b => some (decide (a = b))
  | a, b => eqPd a b
def eqF : D → D → Bool
  | .non, .non => true
  | .bl a, .bl b => a == b
  | .bl a, .int b => b2n a == b
  | .int a, .bl b => a == b2n b
  | .int a, .int b => a == b
  | .str a, .str b => decide (a = b)
  | _, _ => false
def inD (x : D) (ys : List D) : Option Bool := if flatD x && ys.all flatD then some (ys.any fun y => eqF y x) else none
def keyD : D → Option DKey
  | .int i => some (.i i)
  | .str s => some (.s s)
  | _ => none
def isNon : D → Bool
  | .non => true
  | _ => false
def cmpP : CmpOp → D → D → Option Bool
  | .Eq, a, b => eqD a b
  | .NotEq, a, b => (eqD a b).map (!·)
  | .Lt, .int i, .int j => some (decide (i < j))
  | .LtE, .int i, .int j => some (decide (i ≤ j))
  | .Gt, .int i, .int j => some (decide (j < i))
  | .GtE, .int i, .int j => some (decide (j ≤ i))
  | .Is, a, .non => some (isNon a)
  | .IsNot, a, .non => some (!isNon a)
  | .Is, .bl a, .bl b => some (a == b)
  | .IsNot, .bl a, .bl b => some (!(a == b))
  | .In, .str [x], .str y => some (decide (x ∈ y))
  | .NotIn, .str [x], .str y => some (!decide (x ∈ y))
  | .In, a, .lst ds => inD a ds
  | .In, a, .tup ds => inD a ds
  | .NotIn, a, .lst ds => (inD a ds).map (!·)
  | .NotIn, a, .tup ds => (inD a ds).map (!·)
  | .In, a, .dk ks _ => (keyD a).map fun k => decide (k ∈ ks)
  | .NotIn, a, .dk ks _ => (keyD a).map fun k => !decide (k ∈ ks)
  | _, _, _ => none
/-- comparisons that look into a cell -/
def cmpD (op : CmpOp) (a b : D) : M D := do
  let r ← M.opt (cmpP op a b)
  pure (.bl r)
def ixP : D → D → Option D
  | .tup ds, .int i => getD ds i
  | .lst ds, .int i => getD ds i
  | .str s, .int i => if s.length ≤ line then (getD s i).map fun c => .str [c] else none
  | _, _ => none
def ixM : D → D → M D
  | .ref n, .int i => do
    let c ← cellAt n
    match c with
    | .lst ds => M.opt (getD ds i)
    | _ => M.fail
  | a, b => M.opt (ixP a b)
/-- an end of a slice: left out, or an int -/
def endV (nul : Bool) (d : D) : Option (Option Int) := if nul then some none else match d with
  | .int i => some (some i)
  | _ => none
def endM (nul : Bool) (m : M D) : M (Option Int) := do let x ← m; M.opt (endV nul x)
def isNul : Ex → Bool
  | .nul => true
  | _ => false
def slP (a : D) (lo hi : Option Int) : Option D := match a with
  | .str s => if s.length ≤ line then some (.str (cutD s lo hi)) else none
  | .tup ds => some (.tup (cutD ds lo hi))
  | _ => none
/-- isinstance, one class; sup: the own classes of an own class -/
def isiD (sup : Nat → Option (List Nat)) : Ty → D → Option Bool
  | _, .ref _ => none
  | _, .scr _ => none
  | .cls c, .obj d _ _ => (sup d).map fun l => decide (c ∈ l)
  | _, .obj d _ _ => (sup d).map fun _ => false
  | .int, .int _ => some true
  | .int, .bl _ => some true
  | .bool, .bl _ => some true
  | .str, .str _ => some true
  | .list, .lst _ => some true
  | .tuple, .tup _ => some true
  | .dict, .dk _ _ => some true
  | _, _ => some false
def isiC (sup : Nat → Option (List Nat)) : Ty → HC → Option Bool
  | .cls c, .ins d _ _ => (sup d).map fun l => decide (c ∈ l)
  | _, .ins d _ _ => (sup d).map fun _ => false
  | .list, .lst _ => some true
  | .dict, .dk _ _ => some true
  | _, _ => some false
def isiAny (f : Ty → Option Bool) : List Ty → Option Bool
  | [] => some false
  | t :: ts => (f t).bind fun a => (isiAny f ts).map fun b => a || b
def isiM (sup : Nat → Option (List Nat)) (ts : List Ty) : D → M D
  | .ref n => do
    let c ← cellAt n
    let b ← M.opt (isiAny (fun t => isiC sup t c) ts)
    pure (.bl b)
  | d => do
    let b ← M.opt (isiAny (fun t => isiD sup t d) ts)
    pure (.bl b)
def intsD : List D → Option (List Int)
  | [] => some []
  | .int i :: r => (intsD r).map (i :: ·)
  | _ :: _ => none
def blsD : List D → Option (List Bool)
  | [] => some []
  | .bl i :: r => (blsD r).map (i :: ·)
  | _ :: _ => none
def strsD : List D → Option (List (List Nat))
  | [] => some []
  | .str i :: r => (strsD r).map (i :: ·)
  | _ :: _ => none
def itemsD : D → Option (List D)
  | .tup ds => some ds
  | .lst ds => some ds
  | .scr ns => some (ns.map .int)
  | _ => none
def un (s : Str) : List Nat := s.cps.toList
/-- what str(i) takes -/
@[irreducible] def big : Nat := 10 ^ 4300
theorem big_eq : big = 10 ^ 4300 := by unfold big; first | rfl | skip
/-- the written form of a number -/
def strI (i : Int) : List Nat := un ((toString i : String) : Str)
/-- int(text) -/
def rdInt (s : List Nat) : Option Int := if s.length ≤ 640 then PySem.intText? (st s) else none
def extI (f : Int → Int → Bool) : List Int → Option Int
  | [] => none
  | i :: r => some (r.foldl (fun m j => if f j m then j else m) i)
def b1P : B1 → D → Option D
  | .len, .str s => if s.length ≤ line then some (.int s.length) else none
  | .len, .tup ds => some (.int ds.length)
  | .len, .lst ds => some (.int ds.length)
  | .len, .scr ns => some (.int ns.length)
  | .len, .dk ks _ => some (.int ks.length)
  | .abs, .int i => some (.int i.natAbs)
  | .int, .int i => some (.int i)
  | .int, .bl b => some (.int (b2n b))
  | .int, .str s => (rdInt s).map .int
  | .bool, .int i => some (.bl (i != 0))
  | .bool, .bl b => some (.bl b)
  | .str, .int i => if i.natAbs < big then some (.str (strI i)) else none
  | .str, .str s => some (.str s)
  | .sum, .lst ds => (intsD ds).map fun ns => .int ns.sum
  | .min, .lst ds => (intsD ds).bind fun ns => (extI (fun a b => decide (a < b)) ns).map .int
  | .max, .lst ds => (intsD ds).bind fun ns => (extI (fun a b => decide (b < a)) ns).map .int
  | .all, .lst ds => (blsD ds).map fun bs => .bl (bs.all id)
  | .any, .lst ds => (blsD ds).map fun bs => .bl (bs.any id)
  | .tuple, .lst ds => some (.tup ds)
  | .tuple, .tup ds => some (.tup ds)
  | _, _ => none
def b1M (k : B1) : D → M D
  | .ref n => do
    let c ← cellAt n
    match k, c with
    | .len, .lst ds => pure (.int ds.length)
    | .len, .dk ks _ => pure (.int ks.length)
    | .tuple, .lst ds => pure (.tup ds)
    | _, _ => M.fail
  | d => M.opt (b1P k d)
def b2P : B2 → D → D → Option D
  | .min, .int i, .int j => some (.int (if j < i then j else i))
  | .max, .int i, .int j => some (.int (if j > i then j else i))
  | .divmod, .int i, .int j => if 0 < j ∧ j.natAbs.log2 < 9000 then some (.tup [.int (i.fdiv j), .int (i.fmod j)]) else none
  | _, _, _ => none
def smP : SM → D → List D → Option D
  | .startswith, .str s, [.str p] => some (.bl (Txt.startswith (st s) (st p)))
  | .partition, .str s, [.str p] => if p.length ≠ 0 ∧ s.length ≤ line then some (.tup [.str (un (Txt.partition (st s) (st p)).1), .str (un (Txt.partition (st s) (st p)).2.1), .str (un (Txt.partition (st s) (st p)).2.2)]) else none
  | .join, .str p, [.lst ds] => (strsD ds).bind fun ss => if (ss.map List.length).sum + ss.length * p.length ≤ line then some (.str (un (Txt.join (st p) (ss.map st)))) else none
  | .index, .str s, [.str p] => match Builtin.Str.occurrences (st s) (st p) 0 (st s).length 1 with
    | i :: _ => some (.int i)
    | [] => none
  | .bits, .int i, [] => some (.int (Builtin.Int.intBits i : Nat))
  | .upper, .str s, [] => if s.length ≤ 5592405 then some (.str (un (Txt.upper (st s)))) else none
  | _, _, _ => none
/-- what the method's receiver must be -/
def smR : SM → D → Bool
  | .bits, .int _ => true
  | .bits, _ => false
  | _, .str _ => true
  | _, _ => false
/-- a part of an f-string -/
def fmP : D → Option D
  | .str s => if s.length ≤ line then some (.str s) else none
  | .int i => if i.natAbs < big then some (.str (strI i)) else none
  | _ => none
/-- store a value at targets -/
def setSl (ρ : Env) (i : Nat) (d : D) : Option Env := if i < ρ.length then some (ρ.set i (.val d)) else none
mutual
def setTg : Tg → D → Env → Option Env
  | .n i, d, ρ => setSl ρ i d
  | .t ts, d, ρ => (match d with
    | .tup ds => setTgs ts ds ρ
    | _ => none)
def setTgs : List Tg → List D → Env → Option Env
  | [], ds, ρ => (match ds with
    | [] => some ρ
    | _ :: _ => none)
  | t :: ts, ds, ρ => (match ds with
    | [] => none
    | d :: ds => (setTg t d ρ).bind fun ρ' => setTgs ts ds ρ')
end
def wipeE (ρ : Env) : List Nat → Env
  | [] => ρ
  | i :: r => (wipeE ρ r).set i .non
def getSl (ρ : Env) (i : Nat) : M D := match ρ[i]? with
  | some (.val d) => M.ret d
  | _ => M.fail
def getOwn (ρ : Env) (i : Nat) : M HC := match ρ[i]? with
  | some (.own c) => M.ret c
  | _ => M.fail
def listC : HC → M (List D)
  | .lst ds => M.ret ds
  | _ => M.fail
def compL (turn : D → M (Option D)) : List D → List D → M (List D)
  | acc, [] => M.ret acc
  | acc, x :: xs => do
    let y ← turn x
    match y with
    | some d => if acc.length < line then compL turn (acc ++ [d]) xs else M.fail
    | none => compL turn acc xs
/-- no exception leaves -/
def M.tot {α : Type} (m : M α) : M α := fun h => match m h with
  | .ok a h' => .ok a h'
  | _ => .bad
/-- one turn of a comprehension -/
def turnC (own : List Nat) (tg : Tg) (fc fe : Env → M D) (ρ : Env) (x : D) : M (Option D) := do
  let ρ' ← M.opt (setTg tg x (wipeE ρ own))
  let t ← fc ρ'
  let b ← truth t
  if b then do let y ← fe ρ'; pure (some y) else pure none
/-- what is walked: a list, a tuple, the script, a text -/
def itD : D → Option (List D)
  | .str s => some (s.map fun c => .str [c])
  | d => itemsD d
/-- is x in it -/
def oinP (c : HC) (x : D) : M Bool := match c with
  | .lst ds => M.opt (inD x ds)
  | .dk ks _ => M.opt ((keyD x).map fun k => decide (k ∈ ks))
  | _ => M.fail
def rngD (a b : Int) : List D := (List.range (b - a).toNat).map fun (k : Nat) => .int (a + k)
def rngOk (a : Int) : Bool := decide (-(2 ^ 62) ≤ a ∧ a < 2 ^ 62)
/-- what is wanted of the program around -/
structure Cfg where
  call : Nat → List D → M D
  dfl : Nat → Nat → List D
  callk : Nat → Nat → List D → List D → M D
  make : Nat → List D → M D
  makek : Nat → Nat → List D → List D → M D
  mth : Nat → Nat → Option Nat
  prp : Nat → Nat → Option Nat
  glo : Nat → Option D
  sup : Nat → Option (List Nat)
  hnd : Nat → M D → M D
  lamc : M D
  xf : Nat → Option Nat
  xs : Nat → Option (List Nat)
/-- the lambda at hand is called -/
def lcallE (C : Cfg) (i : Nat) (ρ : Env) : M D := match ρ[i]? with
  | some .fn => C.lamc
  | _ => M.fail
/-- isinstance of the exception at hand: an own class, or ValueError -/
def eisE (C : Cfg) (i : Nat) (t : Option Nat) (ρ : Env) : M D := match ρ[i]? with
  | some (.exn e) => (match C.xs e.cls with
    | some l => (match t with
      | none => M.ret (.bl true)
      | some c => M.ret (.bl (decide (c ∈ l))))
    | none => M.fail)
  | _ => M.fail
/-- the exception's attribute -/
def efldE (C : Cfg) (i n : Nat) (ρ : Env) : M D := match ρ[i]? with
  | some (.exn ⟨c, [d]⟩) => if C.xf c = some n then M.ret d else M.fail
  | _ => M.fail
/-- a list's items: at hand, or of its cell -/
def listM : D → M (List D)
  | .lst ds => M.ret ds
  | .ref n => do let c ← cellAt n; listC c
  | _ => M.fail
def itemsM : D → M (List D)
  | .ref n => do let c ← cellAt n; listC c
  | d => M.opt (itemsD d)
/-- a list's cell -/
def lstM : D → M (Nat × List D)
  | .ref n => do
    let c ← cellAt n
    let ds ← listC c
    pure (n, ds)
  | _ => M.fail
/-- an own object: its class, its attributes -/
def insM : D → M (Nat × List Nat × List D)
  | .obj c fs ds => M.ret (c, fs, ds)
  | .ref n => do
    let c ← cellAt n
    match c with
    | .ins c fs ds => M.ret (c, fs, ds)
    | _ => M.fail
  | _ => M.fail
/-- the method's function: m is no attribute -/
def mthM (C : Cfg) (m : Nat) (x : D) : M Nat := do
  let (c, fs, _) ← insM x
  if m ∈ fs then M.fail else M.opt (C.mth c m)
def prpM (C : Cfg) (m : Nat) (x : D) : M Nat := do
  let (c, fs, _) ← insM x
  if m ∈ fs then M.fail else M.opt (C.prp c m)
def lookF (f : Nat) : List Nat → List D → Option D
  | g :: fs, d :: ds => if g = f then some d else lookF f fs ds
  | _, _ => none
def fldM (sup : Nat → Option (List Nat)) (f : Nat) (x : D) : M D := do
  let (c, fs, ds) ← insM x
  let _ ← M.opt (sup c)
  M.opt (lookF f fs ds)
mutual
def ev (C : Cfg) : Ex → Env → M D
  | .c d, _ => M.ret d
  | .v i, ρ => getSl ρ i
  | .g x, _ => M.opt (C.glo x)
  | .bin op a b, ρ => do let x ← ev C a ρ; let y ← ev C b ρ; M.opt (binP op x y)
  | .neg a, ρ => do
    let x ← ev C a ρ
    match x with
    | .int i => pure (.int (-i))
    | _ => M.fail
  | .cmp op a b, ρ => do let x ← ev C a ρ; let y ← ev C b ρ; cmpD op x y
  | .chain o p a b c, ρ => do
    let x ← ev C a ρ
    let y ← ev C b ρ
    let r ← M.opt (cmpP o x y)
    if r then do let z ← ev C c ρ; cmpD p y z else pure (.bl false)
  | .and_ a b, ρ => do
    let x ← ev C a ρ
    let t ← truth x
    if t then ev C b ρ else pure x
  | .or_ a b, ρ => do
    let x ← ev C a ρ
    let t ← truth x
    if t then pure x else ev C b ρ
  | .not_ a, ρ => do let x ← ev C a ρ; let t ← truth x; pure (.bl (!t))
  | .ite t a b, ρ => do
    let x ← ev C t ρ
    let k ← truth x
    if k then ev C a ρ else ev C b ρ
  | .tup es, ρ => do let ds ← evs C es ρ; if ds.length ≤ line then pure (.tup ds) else M.fail
  | .ix a b, ρ => do let x ← ev C a ρ; let y ← ev C b ρ; ixM x y
  | .sl a lo hi, ρ => do
    let x ← ev C a ρ
    let l ← endM (isNul lo) (ev C lo ρ)
    let u ← endM (isNul hi) (ev C hi ρ)
    M.opt (slP x l u)
  | .nul, _ => M.ret .non
  | .isi ts _ a, ρ => do let x ← ev C a ρ; isiM C.sup ts x
  | .b1 k a, ρ => do let x ← ev C a ρ; b1M k x
  | .b2 k a b, ρ => do let x ← ev C a ρ; let y ← ev C b ρ; M.opt (b2P k x y)
  | .sm k a es, ρ => do let x ← ev C a ρ; if smR k x then do let ds ← evs C es ρ; M.opt (smP k x ds) else M.fail
  | .js es, ρ => do let s ← evJ C es [] ρ; pure (.str s)
  | .fm a, ρ => do
    let x ← ev C a ρ
    M.opt (fmP x)
  | .call f j es, ρ => do let ds ← evs C es ρ; C.call f (ds ++ C.dfl f j)
  | .callk f p es ks, ρ => do let ds ← evs C es ρ; let zs ← evs C ks ρ; C.callk f p ds zs
  | .make c es, ρ => do let ds ← evs C es ρ; C.make c ds
  | .makek c p es ks, ρ => do let ds ← evs C es ρ; let zs ← evs C ks ρ; C.makek c p ds zs
  | .meth m o es, ρ => do let x ← ev C o ρ; let f ← mthM C m x; let ds ← evs C es ρ; C.call f (x :: ds)
  | .prop m o, ρ => do let x ← ev C o ρ; let f ← prpM C m x; C.call f [x]
  | .fld f o, ρ => do let x ← ev C o ρ; fldM C.sup f x
  | .lam f a, ρ => C.hnd f (ev C a ρ)
  | .lcall i, ρ => lcallE C i ρ
  | .eis i t, ρ => eisE C i t ρ
  | .efld i n, ρ => efldE C i n ρ
  | .olen i, ρ => do
    let c ← getOwn ρ i
    match c with
    | .lst ds => pure (.int ds.length)
    | .dk ks _ => pure (.int ks.length)
    | _ => M.fail
  | .oix i a, ρ => do
    let c ← getOwn ρ i
    let x ← ev C a ρ
    match c, x with
    | .lst ds, .int k => M.opt (getD ds k)
    | _, _ => M.fail
  | .oin neg a i, ρ => do
    let x ← ev C a ρ
    let c ← getOwn ρ i
    let b ← oinP c x
    pure (.bl (if neg then !b else b))
  | .obool i, ρ => do
    let c ← getOwn ρ i
    let b ← M.opt (truthC c)
    pure (.bl b)
  | .happ o a, ρ => do
    let x ← ev C o ρ
    let _ ← lstM x
    let y ← ev C a ρ
    let (n, ds) ← lstM x
    if ds.length < line then do
      putAt n (.lst (ds ++ [y]))
      pure .non
    else M.fail
  | .hpop o, ρ => do
    let x ← ev C o ρ
    let (n, ds) ← lstM x
    match ds[ds.length - 1]? with
    | some d => do
      putAt n (.lst ds.dropLast)
      pure d
    | none => M.fail
  | .hpopat o a, ρ => do
    let x ← ev C o ρ
    let _ ← lstM x
    let y ← ev C a ρ
    let (n, ds) ← lstM x
    match y with
    | .int i =>
      if 0 ≤ i ∧ i < 1000000 then
        match ds[i.toNat]? with
        | some d => do
          putAt n (.lst (ds.eraseIdx i.toNat))
          pure d
        | none => M.fail
      else M.fail
    | _ => M.fail
  | .hrev o, ρ => do
    let x ← ev C o ρ
    let (n, ds) ← lstM x
    putAt n (.lst ds.reverse)
    pure .non
  | .hclear o, ρ => do
    let x ← ev C o ρ
    let (n, _) ← lstM x
    putAt n (.lst [])
    pure .non
  | .d0, _ => M.ret (.dk [] [])
  | .fz l, ρ => do let ds ← evL C l ρ; pure (.lst ds)
  | .hp l, ρ => do let ds ← evL C l ρ; alloc (.lst ds)
  | _, _ => M.fail
/-- a new list's items -/
def evL (C : Cfg) : Ex → Env → M (List D)
  | .L es, ρ => do let ds ← evs C es ρ; if ds.length ≤ line then pure ds else M.fail
  | .Lcp a, ρ => do let x ← ev C a ρ; itemsM x
  | .Lr1 a, ρ => do
    let x ← ev C a ρ
    match x with
    | .int b => if -1000 ≤ b ∧ b ≤ 1000000 then pure (rngD 0 b) else M.fail
    | _ => M.fail
  | .Lr2 a b, ρ => do
    let x ← ev C a ρ
    let y ← ev C b ρ
    match x, y with
    | .int a, .int b => if rngOk a ∧ rngOk b ∧ b - a ≤ 1000000 then pure (rngD a b) else M.fail
    | _, _ => M.fail
  | .Lc own tg it cond elt, ρ => do
    let xs ← evI C it ρ
    compL (fun x => M.tot (turnC own tg (ev C cond) (ev C elt) ρ x)) [] xs
  | .Lsl a lo hi, ρ => do
    let x ← ev C a ρ
    let l ← endM (isNul lo) (ev C lo ρ)
    let u ← endM (isNul hi) (ev C hi ρ)
    let ds ← listM x
    pure (cutD ds l u)
  | .Lcat a b, ρ => do
    let x ← ev C a ρ
    let y ← ev C b ρ
    let xs ← listM x
    let ys ← listM y
    if xs.length + ys.length ≤ line then pure (xs ++ ys) else M.fail
  | .Lrep a b, ρ => do
    let x ← ev C a ρ
    let y ← ev C b ρ
    let ds ← listM x
    match y with
    | .int k => if -1000000 ≤ k ∧ k ≤ 1000000 ∧ ds.length * k.toNat ≤ line then pure (List.replicate k.toNat ds).flatten else M.fail
    | _ => M.fail
  | .Lspl a b, ρ => do
    let x ← ev C a ρ
    if smR .partition x then do
      let y ← ev C b ρ
      match x, y with
      | .str s, .str p => if s.length + 2 ≤ line ∧ p.length ≠ 0 then pure ((Txt.split (st s) (st p)).map fun z => .str (un z)) else M.fail
      | _, _ => M.fail
    else M.fail
  | _, _ => M.fail
/-- what is walked -/
def evI (C : Cfg) : Ex → Env → M (List D)
  | .Il a, ρ => do let x ← ev C a ρ; M.opt (itD x)
  | .v i, ρ => do
    let x ← getSl ρ i
    match x with
    | .lst ds => M.ret ds
    | _ => M.fail
  | .Ir1 a, ρ => do
    let x ← ev C a ρ
    match x with
    | .int b => if rngOk b then pure (rngD 0 b) else M.fail
    | _ => M.fail
  | .Ir2 a b, ρ => do
    let x ← ev C a ρ
    let y ← ev C b ρ
    match x, y with
    | .int a, .int b => if rngOk a ∧ rngOk b then pure (rngD a b) else M.fail
    | _, _ => M.fail
  | .Ien a, ρ => do
    let x ← ev C a ρ
    match x with
    | .lst ds => pure ((List.range ds.length).zip ds |>.map fun p => .tup [.int p.1, p.2])
    | _ => M.fail
  | .Izip a b, ρ => do
    let x ← ev C a ρ
    let y ← ev C b ρ
    match x, y with
    | .lst xs, .lst ys => pure ((xs.zip ys).map fun p => .tup [p.1, p.2])
    | _, _ => M.fail
  | _, _ => M.fail
/-- the parts of an f-string -/
def evJ (C : Cfg) : List Ex → List Nat → Env → M (List Nat)
  | [], acc, _ => M.ret acc
  | e :: es, acc, ρ => do
    let x ← ev C e ρ
    match x with
    | .str s => if acc.length + s.length ≤ line then evJ C es (acc ++ s) ρ else M.fail
    | _ => M.fail
def evs (C : Cfg) : List Ex → Env → M (List D)
  | [], _ => M.ret []
  | e :: es, ρ => do let d ← ev C e ρ; let ds ← evs C es ρ; pure (d :: ds)
end
end PL
end
section
set_option Elab.async false
set_option linter.all false
set_option maxHeartbeats 1000000
/-! PL2: how the evaluator's data stand in the hand layer's heap; readings by outcomes. -/
namespace PL
open PySem PySem.Spec PyProof.Rows L2

/-- no table, no thing of its own kind -/
def noT : HO → Bool
  | .tbl _ => false
  | .ext _ => false
  | _ => true
/-- what is fixed: the written part, the own classes' addresses, the attributes' names -/
structure Fx where
  K : PySem.W.Frag
  ca : Nat → Addr
  nm : Nat → Str
  xn : Nat → Str
  /-- what stays true of the heap besides -/
  P : Hp → Prop
  st : ∀ (H : Hp) (a : Addr) (o : HO), P H → (∀ u, H a = some u → noT u = true) → noT o = true → P (upd H a o)
  /-- the lambda at hand, the exception at hand -/
  sa : Option Addr
  sx : Option (Addr × Value × Option Addr)
structure Wd where
  F : Hp
  ph : Nat → Option Addr
structure Wle (w w' : Wd) : Prop where
  f : Same w.F w'.F
  p : ∀ n a, w.ph n = some a → w'.ph n = some a
theorem Wle.refl (w : Wd) : Wle w w := ⟨Same.refl _, fun _ _ h => h⟩
theorem Wle.trans {a b c : Wd} (x : Wle a b) (y : Wle b c) : Wle a c := ⟨x.f.trans y.f, fun n p h => y.p n p (x.p n p h)⟩
def kD : DKey → Key
  | .i n => .inl n
  | .s x => .inr (st x)
variable (fx : Fx)
mutual
def Rel (w : Wd) : D → V → Prop
  | .non, v => v = .non
  | .bl b, v => v = .bl b
  | .int i, v => v = .int i
  | .str s, v => v = .str (st s)
  | .tup ds, v => ∃ a vs, v = .ref a ∧ SqT fx.K w.F a vs ∧ Rels w ds vs
  | .lst ds, v => ∃ a vs, v = .ref a ∧ w.F a = some (.lst vs) ∧ Rels w ds vs
  | .scr ns, v => ∃ a, v = .ref a ∧ SqL fx.K w.F a (ns.map V.int)
  | .dk ks ds, v => ∃ a vs, v = .ref a ∧ w.F a = some (.dK ((ks.map kD).zip vs)) ∧ ks.length = ds.length ∧ Rels w ds vs
  | .obj c fs ds, v => ∃ a dx vs, v = .ref a ∧ w.F a = some (.ins (fx.ca c) dx ((fs.map fx.nm).zip vs)) ∧ fs.length = ds.length ∧ Rels w ds vs
  | .ref n, v => ∃ a, v = .ref a ∧ w.ph n = some a
def Rels (w : Wd) : List D → List V → Prop
  | [], vs => vs = []
  | d :: ds, vs => ∃ v r, vs = v :: r ∧ Rel w d v ∧ Rels w ds r
end
def CRel (w : Wd) : HC → HO → Prop
  | .lst ds, o => ∃ vs, o = .lst vs ∧ Rels fx w ds vs
  | .dk ks ds, o => ∃ vs, o = .dK ((ks.map kD).zip vs) ∧ ks.length = ds.length ∧ Rels fx w ds vs
  | .ins c fs ds, o => ∃ dx vs, o = .ins (fx.ca c) dx ((fs.map fx.nm).zip vs) ∧ fs.length = ds.length ∧ Rels fx w ds vs
/-- R: what others own, it stays -/
structure HR (w : Wd) (R : Hp) (h : Hs) (H : Hp) : Prop where
  sF : Same w.F H
  sR : Same R H
  dis : ∀ a o, w.F a = some o → R a = none
  live : ∀ n c, h.cells n = some c → ∃ a o, w.ph n = some a ∧ w.F a = none ∧ R a = none ∧ H a = some o ∧ CRel fx w c o
  inj : ∀ n m a, w.ph n = some a → w.ph m = some a → n = m
  rng : ∀ n a, w.ph n = some a → (∃ o, H a = some o ∧ noT o = true) ∧ R a = none
  top : ∀ n, h.nx ≤ n → w.ph n = none ∧ h.cells n = none
  ps : fx.P H
  nF : ∀ a o, w.F a = some o → noT o = true
  nR : ∀ a o, R a = some o → noT o = true
/-- an exception's object: its class, its dict -/
def XRel (w : Wd) (e : Exn) (cls : Value) (d : Option Addr) : Prop := cls = .ref (fx.ca e.cls) ∧ match e.args with
  | [] => d = none
  | [x] => ∃ a v, d = some a ∧ w.F a = some (.xd [(fx.xn e.cls, v)]) ∧ Rel fx w x v
  | _ => False
/-- a slot -/
def SlR (w : Wd) (R : Hp) : Sl → Option (Option V) → Prop
  | .non, _ => True
  | .val d, o => ∃ v, o = some (some v) ∧ Rel fx w d v
  | .own c, o => ∃ a u, o = some (some (.ref a)) ∧ R a = some u ∧ CRel fx w c u
  | .fn, o => ∃ a, fx.sa = some a ∧ o = some (some (.ref a))
  | .exn e, o => ∃ a cls d, fx.sx = some (a, cls, d) ∧ o = some (some (.ref a)) ∧ XRel fx w e cls d
structure SR (w : Wd) (R : Hp) (ρ : Env) (σ : L2.St) : Prop where
  len : ρ.length = σ.length
  at_ : ∀ (i : Nat) s, ρ[i]? = some s → SlR fx w R s σ[i]?
variable {fx} {w w' w1 : Wd} {R : Hp} {h h' h1 : Hs} {H H' H1 : Hp} {ρ : Env} {σ : L2.St} {a : Addr} {ds : List D} {vs : List V} {d : D} {v : V}
theorem sqT_mono {K : PySem.W.Frag} {F F' : Hp} {a : Addr} {xs : List V} (e : Same F F') (h : SqT K F a xs) : SqT K F' a xs := by
  rcases h with (h | ⟨o, h⟩) | h
  · exact .inl (.inl (e _ _ h))
  · exact .inl (.inr ⟨o, e _ _ h⟩)
  · exact .inr h
mutual
theorem Rel.mono (le : Wle w w') : ∀ (d : D) (v : V), Rel fx w d v → Rel fx w' d v
  | .non, _, h => h
  | .bl _, _, h => h
  | .int _, _, h => h
  | .str _, _, h => h
  | .tup ds, _, ⟨a, vs, e, q, r⟩ => ⟨a, vs, e, sqT_mono le.f q, Rels.mono le ds vs r⟩
  | .lst ds, _, ⟨a, vs, e, q, r⟩ => ⟨a, vs, e, le.f _ _ q, Rels.mono le ds vs r⟩
  | .scr _, _, ⟨a, e, q⟩ => ⟨a, e, le.f.seq q⟩
  | .dk _ ds, _, ⟨a, vs, e, q, l, r⟩ => ⟨a, vs, e, le.f _ _ q, l, Rels.mono le ds vs r⟩
  | .obj _ _ ds, _, ⟨a, dx, vs, e, q, l, r⟩ => ⟨a, dx, vs, e, le.f _ _ q, l, Rels.mono le ds vs r⟩
  | .ref _, _, ⟨a, e, q⟩ => ⟨a, e, le.p _ _ q⟩
theorem Rels.mono (le : Wle w w') : ∀ (ds : List D) (vs : List V), Rels fx w ds vs → Rels fx w' ds vs
  | [], _, h => h
  | d :: ds, _, ⟨v, r, e, a, b⟩ => ⟨v, r, e, Rel.mono le d v a, Rels.mono le ds r b⟩
end
theorem CRel.mono (le : Wle w w') : ∀ {c : HC} {o : HO}, CRel fx w c o → CRel fx w' c o
  | .lst ds, _, ⟨vs, e, r⟩ => ⟨vs, e, Rels.mono le ds vs r⟩
  | .dk _ ds, _, ⟨vs, e, l, r⟩ => ⟨vs, e, l, Rels.mono le ds vs r⟩
  | .ins _ _ ds, _, ⟨dx, vs, e, l, r⟩ => ⟨dx, vs, e, l, Rels.mono le ds vs r⟩
theorem CRel.noT : ∀ {c : HC} {o : HO}, CRel fx w c o → noT o = true
  | .lst _, _, ⟨_, e, _⟩ => by rw [e]; rfl
  | .dk _ _, _, ⟨_, e, _⟩ => by rw [e]; rfl
  | .ins _ _ _, _, ⟨_, _, e, _⟩ => by rw [e]; rfl
theorem upd_noT {R : Hp} {p : Addr} {o : HO} (h : ∀ a o, R a = some o → PL.noT o = true) (no : PL.noT o = true) : ∀ a u, upd R p o a = some u → PL.noT u = true := fun a u e => by
  by_cases hb : a = p
  · subst hb; rw [upd_same] at e; cases e; exact no
  · rw [upd_ne hb] at e; exact h a u e
theorem Rels.length : ∀ {ds : List D} {vs : List V}, Rels fx w ds vs → ds.length = vs.length
  | [], _, h => by cases h; rfl
  | d :: ds, _, ⟨v, r, e, _, b⟩ => by cases e; simp [Rels.length b]
theorem Rels.get : ∀ {ds : List D} {vs : List V} {i : Nat} {d : D}, Rels fx w ds vs → ds[i]? = some d → ∃ v, vs[i]? = some v ∧ Rel fx w d v
  | [], _, i, d, _, e => by simp at e
  | x :: ds, _, 0, d, ⟨v, r, e, a, _⟩, g => by
    simp at g; subst g; subst e
    exact ⟨v, rfl, a⟩
  | x :: ds, _, i + 1, d, ⟨v, r, e, _, b⟩, g => by
    subst e
    obtain ⟨u, h1, h2⟩ := Rels.get (i := i) b (by simpa using g)
    exact ⟨u, by simpa using h1, h2⟩
theorem Rels.app : ∀ {ds es : List D} {vs us : List V}, Rels fx w ds vs → Rels fx w es us → Rels fx w (ds ++ es) (vs ++ us)
  | [], _, _, _, h, k => by cases h; exact k
  | d :: ds, _, _, _, ⟨v, r, e, a, b⟩, k => by subst e; exact ⟨v, _, rfl, a, Rels.app b k⟩
theorem Rels.one (h : Rel fx w d v) : Rels fx w [d] [v] := ⟨v, [], rfl, h, rfl⟩
theorem Rels.two {e : D} {u : V} (h : Rel fx w d v) (k : Rel fx w e u) : Rels fx w [d, e] [v, u] := ⟨v, _, rfl, h, u, [], rfl, k, rfl⟩
theorem Rels.drop : ∀ {ds : List D} {vs : List V} (n : Nat), Rels fx w ds vs → Rels fx w (ds.drop n) (vs.drop n)
  | _, _, 0, h => h
  | [], _, n + 1, h => by cases h; exact rfl
  | d :: ds, _, n + 1, ⟨v, r, e, _, b⟩ => by subst e; exact Rels.drop n b
theorem Rels.take : ∀ {ds : List D} {vs : List V} (n : Nat), Rels fx w ds vs → Rels fx w (ds.take n) (vs.take n)
  | _, _, 0, h => rfl
  | [], _, n + 1, h => by cases h; exact rfl
  | d :: ds, _, n + 1, ⟨v, r, e, a, b⟩ => by subst e; exact ⟨v, _, rfl, a, Rels.take n b⟩
theorem Rels.set {i : Nat} (k : Rel fx w d v) : ∀ {ds : List D} {vs : List V} (i : Nat), Rels fx w ds vs → Rels fx w (ds.set i d) (vs.set i v)
  | [], _, _, h => by cases h; exact rfl
  | _ :: ds, _, 0, ⟨_, r, e, _, b⟩ => by subst e; exact ⟨_, _, rfl, k, b⟩
  | _ :: ds, _, i + 1, ⟨_, r, e, a, b⟩ => by subst e; exact ⟨_, _, rfl, a, Rels.set (i := i) k i b⟩
theorem Rels.rev : ∀ {ds : List D} {vs : List V}, Rels fx w ds vs → Rels fx w ds.reverse vs.reverse
  | [], _, h => by cases h; exact rfl
  | d :: ds, _, ⟨v, r, e, a, b⟩ => by subst e; rw [List.reverse_cons, List.reverse_cons]; exact Rels.app (Rels.rev b) (Rels.one a)
theorem Rels.ints : ∀ {ds : List D} {vs : List V} {ns : List Int}, Rels fx w ds vs → intsD ds = some ns → vs = ns.map V.int
  | [], _, ns, h, e => by cases h; cases e; rfl
  | .int i :: ds, _, ns, ⟨v, r, e1, a, b⟩, e => by
    subst e1
    cases q : intsD ds with
    | none => rw [intsD, q] at e; cases e
    | some ms =>
      rw [intsD, q] at e; cases e
      rw [Rels.ints b q, List.map_cons, a]
  | .non :: _, _, _, _, e => by cases e
  | .bl _ :: _, _, _, _, e => by cases e
  | .str _ :: _, _, _, _, e => by cases e
  | .tup _ :: _, _, _, _, e => by cases e
  | .lst _ :: _, _, _, _, e => by cases e
  | .scr _ :: _, _, _, _, e => by cases e
  | .dk _ _ :: _, _, _, _, e => by cases e
  | .obj _ _ _ :: _, _, _, _, e => by cases e
  | .ref _ :: _, _, _, _, e => by cases e
theorem Rels.bls : ∀ {ds : List D} {vs : List V} {ns : List Bool}, Rels fx w ds vs → blsD ds = some ns → vs = ns.map V.bl
  | [], _, ns, h, e => by cases h; cases e; rfl
  | .bl i :: ds, _, ns, ⟨v, r, e1, a, b⟩, e => by
    subst e1
    cases q : blsD ds with
    | none => rw [blsD, q] at e; cases e
    | some ms =>
      rw [blsD, q] at e; cases e
      rw [Rels.bls b q, List.map_cons, a]
  | .non :: _, _, _, _, e => by cases e
  | .int _ :: _, _, _, _, e => by cases e
  | .str _ :: _, _, _, _, e => by cases e
  | .tup _ :: _, _, _, _, e => by cases e
  | .lst _ :: _, _, _, _, e => by cases e
  | .scr _ :: _, _, _, _, e => by cases e
  | .dk _ _ :: _, _, _, _, e => by cases e
  | .obj _ _ _ :: _, _, _, _, e => by cases e
  | .ref _ :: _, _, _, _, e => by cases e
theorem Rels.strs : ∀ {ds : List D} {vs : List V} {ns : List (List Nat)}, Rels fx w ds vs → strsD ds = some ns → vs = ns.map fun s => V.str (st s)
  | [], _, ns, h, e => by cases h; cases e; rfl
  | .str i :: ds, _, ns, ⟨v, r, e1, a, b⟩, e => by
    subst e1
    cases q : strsD ds with
    | none => rw [strsD, q] at e; cases e
    | some ms =>
      rw [strsD, q] at e; cases e
      rw [Rels.strs b q, List.map_cons, a]
  | .non :: _, _, _, _, e => by cases e
  | .int _ :: _, _, _, _, e => by cases e
  | .bl _ :: _, _, _, _, e => by cases e
  | .tup _ :: _, _, _, _, e => by cases e
  | .lst _ :: _, _, _, _, e => by cases e
  | .scr _ :: _, _, _, _, e => by cases e
  | .dk _ _ :: _, _, _, _, e => by cases e
  | .obj _ _ _ :: _, _, _, _, e => by cases e
  | .ref _ :: _, _, _, _, e => by cases e
theorem rels_ints (ns : List Int) : Rels fx w (ns.map .int) (ns.map V.int) := by
  induction ns with
  | nil => exact rfl
  | cons n r ih => exact ⟨_, _, rfl, rfl, ih⟩
theorem XRel.mono {w' : Wd} (le : Wle w w') {e : Exn} {cls : Value} {d : Option Addr} (x : XRel fx w e cls d) : XRel fx w' e cls d := by
  obtain ⟨c, as⟩ := e
  refine ⟨x.1, ?_⟩
  have x2 := x.2
  cases as with
  | nil => exact x2
  | cons y ys =>
    cases ys with
    | nil => obtain ⟨a, v, e1, e2, e3⟩ := x2; exact ⟨a, v, e1, le.f _ _ e2, Rel.mono le _ _ e3⟩
    | cons _ _ => exact x2
theorem SR.mono (le : Wle w w') (s : SR fx w R ρ σ) : SR fx w' R ρ σ := ⟨s.len, fun i x e => by
  have q := s.at_ i x e
  cases x with
  | non => trivial
  | val d => obtain ⟨v, e1, r⟩ := q; exact ⟨v, e1, Rel.mono le d v r⟩
  | own c => obtain ⟨a, u, e1, e2, r⟩ := q; exact ⟨a, u, e1, e2, r.mono le⟩
  | fn => exact q
  | exn e => obtain ⟨a, cls, d, e1, e2, x⟩ := q; exact ⟨a, cls, d, e1, e2, x.mono le⟩⟩

/-! ### new objects -/
def Wd.add (w : Wd) (p : Addr) (o : HO) : Wd := ⟨upd w.F p o, w.ph⟩
theorem HR.none (r : HR fx w R h H) {p : Addr} (n : H p = Option.none) : w.F p = Option.none ∧ R p = Option.none ∧ ∀ m, w.ph m ≠ some p := ⟨r.sF.free n, r.sR.free n, fun m e => by
  obtain ⟨⟨o, q, _⟩, _⟩ := r.rng m p e
  rw [n] at q; cases q⟩
theorem Wd.le_add {p : Addr} {o : HO} (n : w.F p = Option.none) : Wle w (w.add p o) := ⟨fun b u e => by
  show upd w.F p o b = some u
  rw [upd_ne (ne_of_none e n)]; exact e, fun _ _ e => e⟩
/-- a new frozen object -/
theorem HR.lay (r : HR fx w R h H) {p : Addr} {o : HO} (n : H p = Option.none) (no : PL.noT o = true := by rfl) : HR fx (w.add p o) R h (upd H p o) := by
  obtain ⟨n1, n2, n3⟩ := r.none n
  have le : Wle w (w.add p o) := Wd.le_add n1
  refine ⟨fun b u e => ?_, fun b u e => ?_, fun b u e => ?_, fun m c e => ?_, r.inj, fun m b e => ?_, r.top, fx.st H p o r.ps (fun u e => by rw [n] at e; cases e) no, upd_noT r.nF no, r.nR⟩
  · have e : upd w.F p o b = some u := e
    by_cases hb : b = p
    · subst hb; rw [upd_same] at e ⊢; exact e
    · rw [upd_ne hb] at e ⊢; exact r.sF b u e
  · rw [upd_ne (ne_of_none e n2)]; exact r.sR b u e
  · have e : upd w.F p o b = some u := e
    by_cases hb : b = p
    · subst hb; exact n2
    · rw [upd_ne hb] at e; exact r.dis b u e
  · obtain ⟨b, u, e1, e2, e3, e4, e5⟩ := r.live m c e
    have hb : b ≠ p := fun z => n3 m (z ▸ e1)
    exact ⟨b, u, e1, by show upd w.F p o b = _; rw [upd_ne hb]; exact e2, e3, by rw [upd_ne hb]; exact e4, e5.mono le⟩
  · obtain ⟨⟨u, q, qn⟩, q2⟩ := r.rng m b e
    have hb : b ≠ p := fun z => by rw [z, n] at q; cases q
    exact ⟨⟨u, by rw [upd_ne hb]; exact q, qn⟩, q2⟩
/-- a new object that another owns -/
theorem HR.layR (r : HR fx w R h H) {p : Addr} {o : HO} (n : H p = Option.none) (no : PL.noT o = true := by rfl) : HR fx w (upd R p o) h (upd H p o) := by
  obtain ⟨n1, n2, n3⟩ := r.none n
  refine ⟨fun b u e => ?_, fun b u e => ?_, fun b u e => ?_, fun m c e => ?_, r.inj, fun m b e => ?_, r.top, fx.st H p o r.ps (fun u e => by rw [n] at e; cases e) no, r.nF, upd_noT r.nR no⟩
  · rw [upd_ne (ne_of_none e n1)]; exact r.sF b u e
  · by_cases hb : b = p
    · subst hb; rw [upd_same] at e ⊢; exact e
    · rw [upd_ne hb] at e ⊢; exact r.sR b u e
  · rw [upd_ne (ne_of_none e n1)]; exact r.dis b u e
  · obtain ⟨b, u, e1, e2, e3, e4, e5⟩ := r.live m c e
    have hb : b ≠ p := fun z => n3 m (z ▸ e1)
    exact ⟨b, u, e1, e2, by rw [upd_ne hb]; exact e3, by rw [upd_ne hb]; exact e4, e5⟩
  · obtain ⟨⟨u, q, qn⟩, q2⟩ := r.rng m b e
    have hb : b ≠ p := fun z => by rw [z, n] at q; cases q
    exact ⟨⟨u, by rw [upd_ne hb]; exact q, qn⟩, by rw [upd_ne hb]; exact q2⟩
/-- what another owns at p is written -/
theorem HR.putR (r : HR fx w R h H) {p : Addr} {o u : HO} (n : R p = some u) (no : PL.noT o = true := by rfl) : HR fx w (upd R p o) h (upd H p o) := by
  have n1 : w.F p = Option.none := by
    cases q : w.F p with
    | none => rfl
    | some z => have := r.dis p z q; rw [n] at this; cases this
  refine ⟨fun b u e => ?_, fun b u e => ?_, fun b u e => ?_, fun m c e => ?_, r.inj, fun m b e => ?_, r.top, fx.st H p o r.ps (fun z e => by rw [r.sR _ _ n] at e; cases e; exact r.nR _ _ n) no, r.nF, upd_noT r.nR no⟩
  · rw [upd_ne (ne_of_none e n1)]; exact r.sF b u e
  · by_cases hb : b = p
    · subst hb; rw [upd_same] at e ⊢; exact e
    · rw [upd_ne hb] at e ⊢; exact r.sR b u e
  · rw [upd_ne (ne_of_none e n1)]; exact r.dis b u e
  · obtain ⟨b, z, e1, e2, e3, e4, e5⟩ := r.live m c e
    have hb : b ≠ p := fun y => by rw [y, n] at e3; cases e3
    exact ⟨b, z, e1, e2, by rw [upd_ne hb]; exact e3, by rw [upd_ne hb]; exact e4, e5⟩
  · obtain ⟨⟨z, q, qn⟩, q2⟩ := r.rng m b e
    have hb : b ≠ p := fun y => by rw [y, n] at q2; cases q2
    exact ⟨⟨z, by rw [upd_ne hb]; exact q, qn⟩, by rw [upd_ne hb]; exact q2⟩
def del (R : Hp) (p : Addr) : Hp := fun b => if b = p then none else R b
theorem del_same {p : Addr} : del R p p = none := if_pos rfl
theorem del_ne {p b : Addr} (h : b ≠ p) : del R p b = R b := if_neg h
/-- what another owned at p is frozen -/
theorem HR.frz (r : HR fx w R h H) {p : Addr} {o : HO} (n : R p = some o) : HR fx (w.add p o) (del R p) h H ∧ Wle w (w.add p o) := by
  have n1 : w.F p = Option.none := by
    cases q : w.F p with
    | none => rfl
    | some z => have := r.dis p z q; rw [n] at this; cases this
  have le : Wle w (w.add p o) := Wd.le_add n1
  refine ⟨⟨fun b u e => ?_, fun b u e => ?_, fun b u e => ?_, fun m c e => ?_, r.inj, fun m b e => ⟨(r.rng m b e).1, by
    by_cases hb : b = p
    · subst hb; exact del_same
    · rw [del_ne hb]; exact (r.rng m b e).2⟩, r.top, r.ps, upd_noT r.nF (r.nR _ _ n), fun a u e => by
    by_cases hb : a = p
    · subst hb; rw [del_same] at e; cases e
    · rw [del_ne hb] at e; exact r.nR a u e⟩, le⟩
  · have e : upd w.F p o b = some u := e
    by_cases hb : b = p
    · subst hb; rw [upd_same] at e; cases e; exact r.sR _ _ n
    · rw [upd_ne hb] at e; exact r.sF b u e
  · by_cases hb : b = p
    · subst hb; rw [del_same] at e; cases e
    · rw [del_ne hb] at e; exact r.sR b u e
  · have e : upd w.F p o b = some u := e
    by_cases hb : b = p
    · subst hb; exact del_same
    · rw [upd_ne hb] at e; rw [del_ne hb]; exact r.dis b u e
  · obtain ⟨b, z, e1, e2, e3, e4, e5⟩ := r.live m c e
    have hb : b ≠ p := fun y => by rw [y, n] at e3; cases e3
    exact ⟨b, z, e1, by show upd w.F p o b = _; rw [upd_ne hb]; exact e2, by rw [del_ne hb]; exact e3, e4, e5.mono le⟩
def Wd.map (w : Wd) (n : Nat) (p : Addr) : Wd := ⟨w.F, fun m => if m = n then some p else w.ph m⟩
/-- a new cell -/
theorem HR.new (r : HR fx w R h H) {p : Addr} {o : HO} {c : HC} (n : H p = Option.none) (k : CRel fx w c o) : HR fx (w.map h.nx p) R (h.new c) (upd H p o) ∧ Wle w (w.map h.nx p) := by
  obtain ⟨n1, n2, n3⟩ := r.none n
  have t := (r.top h.nx (Nat.le_refl _)).1
  have le : Wle w (w.map h.nx p) := ⟨Same.refl _, fun m b e => by
    show (if m = h.nx then some p else w.ph m) = some b
    by_cases hm : m = h.nx
    · rw [hm, t] at e; cases e
    · rw [if_neg hm]; exact e⟩
  refine ⟨⟨fun b u e => ?_, fun b u e => ?_, r.dis, fun m c' e => ?_, fun m m' b e e' => ?_, fun m b e => ?_, fun m hm => ?_, fx.st H p o r.ps (fun u e => by rw [n] at e; cases e) k.noT, r.nF, r.nR⟩, le⟩
  · rw [upd_ne (ne_of_none e n1)]; exact r.sF b u e
  · rw [upd_ne (ne_of_none e n2)]; exact r.sR b u e
  · have e : (if m = h.nx then some c else h.cells m) = some c' := e
    by_cases hm : m = h.nx
    · rw [if_pos hm] at e; cases e
      exact ⟨p, o, by show (if m = h.nx then some p else w.ph m) = _; rw [if_pos hm], n1, n2, upd_same, k.mono le⟩
    · rw [if_neg hm] at e
      obtain ⟨b, z, e1, e2, e3, e4, e5⟩ := r.live m c' e
      have hb : b ≠ p := fun y => n3 m (y ▸ e1)
      exact ⟨b, z, le.p _ _ e1, e2, e3, by rw [upd_ne hb]; exact e4, e5.mono le⟩
  · have e : (if m = h.nx then some p else w.ph m) = some b := e
    have e' : (if m' = h.nx then some p else w.ph m') = some b := e'
    by_cases hm : m = h.nx <;> by_cases hm' : m' = h.nx
    · rw [hm, hm']
    · rw [if_pos hm] at e; rw [if_neg hm'] at e'; cases e; exact absurd e' (n3 m')
    · rw [if_neg hm] at e; rw [if_pos hm'] at e'; cases e'; exact absurd e (n3 m)
    · rw [if_neg hm] at e; rw [if_neg hm'] at e'; exact r.inj m m' b e e'
  · have e : (if m = h.nx then some p else w.ph m) = some b := e
    by_cases hm : m = h.nx
    · rw [if_pos hm] at e; cases e; exact ⟨⟨o, upd_same, k.noT⟩, n2⟩
    · rw [if_neg hm] at e
      obtain ⟨⟨z, q, qn⟩, q2⟩ := r.rng m b e
      have hb : b ≠ p := fun y => by rw [y, n] at q; cases q
      exact ⟨⟨z, by rw [upd_ne hb]; exact q, qn⟩, q2⟩
  · have hm : h.nx + 1 ≤ m := hm
    have ne : m ≠ h.nx := by omega
    obtain ⟨t1, t2⟩ := r.top m (by omega)
    exact ⟨by show (if m = h.nx then some p else w.ph m) = _; rw [if_neg ne]; exact t1, by show (if m = h.nx then some c else h.cells m) = _; rw [if_neg ne]; exact t2⟩
/-- a cell is written -/
theorem HR.put (r : HR fx w R h H) {n : Nat} {p : Addr} {o : HO} {c c' : HC} (e : h.cells n = some c) (ep : w.ph n = some p) (k : CRel fx w c' o) : HR fx w R (h.put n c') (upd H p o) := by
  obtain ⟨p', u, q1, q2, q3, q4, q5⟩ := r.live n c e
  rw [ep] at q1; cases q1
  refine ⟨fun b u e => ?_, fun b u e => ?_, r.dis, fun m c2 e2 => ?_, r.inj, fun m b e2 => ?_, fun m hm => ?_, fx.st H p o r.ps (fun z e => by rw [q4] at e; cases e; exact q5.noT) k.noT, r.nF, r.nR⟩
  · rw [upd_ne (ne_of_none e q2)]; exact r.sF b u e
  · rw [upd_ne (ne_of_none e q3)]; exact r.sR b u e
  · have e2 : (if m = n then some c' else h.cells m) = some c2 := e2
    by_cases hm : m = n
    · rw [if_pos hm] at e2; cases e2
      exact ⟨p, o, hm ▸ ep, q2, q3, upd_same, k⟩
    · rw [if_neg hm] at e2
      obtain ⟨b, z, e1, e3, e4, e5, e6⟩ := r.live m c2 e2
      have hb : b ≠ p := fun y => hm (r.inj m n p (y ▸ e1) ep)
      exact ⟨b, z, e1, e3, e4, by rw [upd_ne hb]; exact e5, e6⟩
  · obtain ⟨⟨z, q, qn⟩, q2⟩ := r.rng m b e2
    refine ⟨?_, q2⟩
    by_cases hb : b = p
    · exact ⟨o, by rw [hb, upd_same], k.noT⟩
    · exact ⟨z, by rw [upd_ne hb]; exact q, qn⟩
  · obtain ⟨t1, t2⟩ := r.top m hm
    have ne : m ≠ n := fun y => by rw [y, e] at t2; cases t2
    exact ⟨t1, by show (if m = n then some c' else h.cells m) = _; rw [if_neg ne]; exact t2⟩
/-- what another owns becomes a cell -/
theorem HR.adopt {p : Addr} {o : HO} {c : HC} (r : HR fx w (upd R p o) h H) (n : R p = Option.none) (k : CRel fx w c o) : HR fx (w.map h.nx p) R (h.new c) H ∧ Wle w (w.map h.nx p) := by
  have n1 : w.F p = Option.none := by
    cases q : w.F p with
    | none => rfl
    | some z => have := r.dis p z q; rw [upd_same] at this; cases this
  have n3 : ∀ m, w.ph m ≠ some p := fun m e => by
    have := (r.rng m p e).2
    rw [upd_same] at this; cases this
  have t := (r.top h.nx (Nat.le_refl _)).1
  have le : Wle w (w.map h.nx p) := ⟨Same.refl _, fun m b e => by
    show (if m = h.nx then some p else w.ph m) = some b
    by_cases hm : m = h.nx
    · rw [hm, t] at e; cases e
    · rw [if_neg hm]; exact e⟩
  have off : ∀ b, b ≠ p → upd R p o b = R b := fun b hb => upd_ne hb
  refine ⟨⟨r.sF, fun b u e => r.sR b u (by rw [off b (ne_of_none e n)]; exact e), fun b u e => ?_, fun m c' e => ?_, fun m m' b e e' => ?_, fun m b e => ?_, fun m hm => ?_, r.ps, r.nF, fun a u e => r.nR a u (by rw [off a (ne_of_none e n)]; exact e)⟩, le⟩
  · have := r.dis b u e
    by_cases hb : b = p
    · rw [hb]; exact n
    · rw [off b hb] at this; exact this
  · have e : (if m = h.nx then some c else h.cells m) = some c' := e
    by_cases hm : m = h.nx
    · rw [if_pos hm] at e; cases e
      exact ⟨p, o, by show (if m = h.nx then some p else w.ph m) = _; rw [if_pos hm], n1, n, r.sR _ _ upd_same, k.mono le⟩
    · rw [if_neg hm] at e
      obtain ⟨b, z, e1, e2, e3, e4, e5⟩ := r.live m c' e
      have hb : b ≠ p := fun y => n3 m (y ▸ e1)
      exact ⟨b, z, le.p _ _ e1, e2, by rw [off b hb] at e3; exact e3, e4, e5.mono le⟩
  · have e : (if m = h.nx then some p else w.ph m) = some b := e
    have e' : (if m' = h.nx then some p else w.ph m') = some b := e'
    by_cases hm : m = h.nx <;> by_cases hm' : m' = h.nx
    · rw [hm, hm']
    · rw [if_pos hm] at e; rw [if_neg hm'] at e'; cases e; exact absurd e' (n3 m')
    · rw [if_neg hm] at e; rw [if_pos hm'] at e'; cases e'; exact absurd e (n3 m)
    · rw [if_neg hm] at e; rw [if_neg hm'] at e'; exact r.inj m m' b e e'
  · have e : (if m = h.nx then some p else w.ph m) = some b := e
    by_cases hm : m = h.nx
    · rw [if_pos hm] at e; cases e; exact ⟨⟨o, r.sR _ _ upd_same, r.nR _ _ upd_same⟩, n⟩
    · rw [if_neg hm] at e
      obtain ⟨q, q2⟩ := r.rng m b e
      have hb : b ≠ p := fun y => n3 m (y ▸ e)
      rw [off b hb] at q2
      exact ⟨q, q2⟩
  · have hm : h.nx + 1 ≤ m := hm
    have ne : m ≠ h.nx := by omega
    obtain ⟨t1, t2⟩ := r.top m (by omega)
    exact ⟨by show (if m = h.nx then some p else w.ph m) = _; rw [if_neg ne]; exact t1, by show (if m = h.nx then some c else h.cells m) = _; rw [if_neg ne]; exact t2⟩

/-! ### outcomes -/
def Out {α : Type} (r : Res α) (Q : α → Hs → Prop) (X : Exn → Hs → Prop) : Prop := match r with
  | .ok a h => Q a h
  | .exc e h => X e h
  | .bad => False
theorem Out.bnd {α β : Type} {m : M α} {f : α → M β} {h : Hs} {Q : β → Hs → Prop} {X : Exn → Hs → Prop} : Out ((m >>= f) h) Q X ↔ Out (m h) (fun a h' => Out (f a h') Q X) X := by
  show Out (M.bnd m f h) Q X ↔ _
  unfold M.bnd
  cases m h <;> rfl
theorem Out.imp {α : Type} {r : Res α} {Q Q' : α → Hs → Prop} {X X' : Exn → Hs → Prop} (o : Out r Q X) (h1 : ∀ a h, Q a h → Q' a h) (h2 : ∀ e h, X e h → X' e h) : Out r Q' X' := by
  cases r with
  | ok a h => exact h1 _ _ o
  | exc e h => exact h2 _ _ o
  | bad => exact o
theorem Out.opt {α : Type} {x : Option α} {h : Hs} {Q : α → Hs → Prop} {X : Exn → Hs → Prop} (o : Out (M.opt x h) Q X) : ∃ a, x = some a ∧ Q a h := by
  cases x with
  | none => exact o.elim
  | some a => exact ⟨a, rfl, o⟩
theorem Out.fail {α : Type} {h : Hs} {Q : α → Hs → Prop} {X : Exn → Hs → Prop} (o : Out ((M.fail : M α) h) Q X) : False := o
theorem Out.cell {n : Nat} {h : Hs} {Q : HC → Hs → Prop} {X : Exn → Hs → Prop} (o : Out (cellAt n h) Q X) : ∃ c, h.cells n = some c ∧ Q c h := by
  unfold cellAt at o
  cases e : h.cells n with
  | none => rw [e] at o; exact o.elim
  | some c => rw [e] at o; exact ⟨c, rfl, o⟩
theorem Out.putAt {n : Nat} {c : HC} {h : Hs} {Q : Unit → Hs → Prop} {X : Exn → Hs → Prop} (o : Out (PL.putAt n c h) Q X) : (∃ c0, h.cells n = some c0) ∧ Q () (h.put n c) := by
  unfold PL.putAt at o
  cases e : h.cells n with
  | none => rw [e] at o; exact o.elim
  | some c0 => rw [e] at o; exact ⟨⟨c0, rfl⟩, o⟩
end PL
end
section
set_option Elab.async false
set_option linter.all false
set_option maxHeartbeats 1000000
/-! PL3: readings of expressions, construct by construct. -/
namespace PL
open PySem PySem.Spec PyProof.Rows L2

/-- what is wanted of a result, of an exception (E: the wish) -/
def PD (fx : Fx) (Q : VK) (w : Wd) (R : Hp) : D → Hs → Prop := fun d h' => ∀ w' v H', Wle w w' → HR fx w' R h' H' → Rel fx w' d v → Q v H'
def PB (fx : Fx) (Q : Bool → Hp → Prop) (w : Wd) (R : Hp) : Bool → Hs → Prop := fun b h' => ∀ w' H', Wle w w' → HR fx w' R h' H' → Q b H'
def PL (fx : Fx) (Q : List V → Hp → Prop) (w : Wd) (R : Hp) : List D → Hs → Prop := fun ds h' => ∀ w' vs H', Wle w w' → HR fx w' R h' H' → Rels fx w' ds vs → Q vs H'
/-- a new list of these items stands at p, owned -/
def PC (fx : Fx) (Q : VK) (w : Wd) (R : Hp) : List D → Hs → Prop := fun ds h' => ∀ w' p vs H', Wle w w' → R p = none → HR fx w' (upd R p (.lst vs)) h' H' → Rels fx w' ds vs → Q (.ref p) H'
abbrev XW := Wd → Hp → Exn → Hs → Prop
/-- the wish of an exception is steady -/
def Std (Z : XW) : Prop := ∀ w w' R e h, Wle w w' → Z w R e h → Z w' R e h
structure Fr (fx : Fx) (w : Wd) (R : Hp) (ρ : Env) (σ : L2.St) (h : Hs) (H : Hp) : Prop where
  hr : HR fx w R h H
  sr : SR fx w R ρ σ
def TD (fx : Fx) (Z : XW) (f : Env → M D) : TE := fun σ H Q => ∃ w R ρ h, Fr fx w R ρ σ h H ∧ Out (f ρ h) (PD fx Q w R) (Z w R)
def TB (fx : Fx) (Z : XW) (f : Env → M Bool) : TT := fun σ H Q => ∃ w R ρ h, Fr fx w R ρ σ h H ∧ Out (f ρ h) (PB fx Q w R) (Z w R)
def TL (fx : Fx) (Z : XW) (f : Env → M (List D)) : TA := fun σ H Q => ∃ w R ρ h, Fr fx w R ρ σ h H ∧ Out (f ρ h) (PL fx Q w R) (Z w R)
def TC (fx : Fx) (Z : XW) (f : Env → M (List D)) : TE := fun σ H Q => ∃ w R ρ h, Fr fx w R ρ σ h H ∧ Out (f ρ h) (PC fx Q w R) (Z w R)
section
variable {fx : Fx} {Z : XW} {w : Wd} {R : Hp} {ρ : Env} {σ : L2.St} {h : Hs} {H : Hp} {Q : VK}
theorem Fr.to (f : Fr fx w R ρ σ h H) {w1 : Wd} {h1 : Hs} {H1 : Hp} (le : Wle w w1) (r : HR fx w1 R h1 H1) : Fr fx w1 R ρ σ h1 H1 := ⟨r, f.sr.mono le⟩
/-- a reading, then more -/
theorem TD.then {f : Env → M D} {P : VK} {Qd : D → Hs → Prop} (zs : Std Z) (fr : Fr fx w R ρ σ h H) (o : Out (f ρ h) Qd (Z w R))
    (k : ∀ w1 v H1 d h1, Wle w w1 → Fr fx w1 R ρ σ h1 H1 → Rel fx w1 d v → Qd d h1 → P v H1) : TD fx Z f σ H P :=
  ⟨w, R, ρ, h, fr, o.imp (fun d h1 q w1 v H1 le r rel => k w1 v H1 d h1 le (fr.to le r) rel q) fun _ _ x => x⟩
theorem TL.then {f : Env → M (List D)} {P : List V → Hp → Prop} {Qd : List D → Hs → Prop} (zs : Std Z) (fr : Fr fx w R ρ σ h H) (o : Out (f ρ h) Qd (Z w R))
    (k : ∀ w1 vs H1 ds h1, Wle w w1 → Fr fx w1 R ρ σ h1 H1 → Rels fx w1 ds vs → Qd ds h1 → P vs H1) : TL fx Z f σ H P :=
  ⟨w, R, ρ, h, fr, o.imp (fun d h1 q w1 v H1 le r rel => k w1 v H1 d h1 le (fr.to le r) rel q) fun _ _ x => x⟩
theorem TB.then {f : Env → M Bool} {P : Bool → Hp → Prop} {Qd : Bool → Hs → Prop} (zs : Std Z) (fr : Fr fx w R ρ σ h H) (o : Out (f ρ h) Qd (Z w R))
    (k : ∀ w1 H1 b h1, Wle w w1 → Fr fx w1 R ρ σ h1 H1 → Qd b h1 → P b H1) : TB fx Z f σ H P :=
  ⟨w, R, ρ, h, fr, o.imp (fun d h1 q w1 H1 le r => k w1 H1 d h1 le (fr.to le r) q) fun _ _ x => x⟩
/-- the older wish of an exception -/
theorem zle (zs : Std Z) {α : Type} {r : Res α} {Qd : α → Hs → Prop} {w1 : Wd} (le : Wle w w1) (o : Out r Qd (Z w R)) : Out r Qd (Z w1 R) := o.imp (fun _ _ q => q) fun e h x => zs _ _ _ _ _ le x
theorem PD.le {w1 : Wd} (le : Wle w w1) {d : D} {h1 : Hs} (p : PD fx Q w R d h1) : PD fx Q w1 R d h1 := fun w' v H' le' r rel => p w' v H' (le.trans le') r rel
theorem PB.le {Q : Bool → Hp → Prop} {w1 : Wd} (le : Wle w w1) {d : Bool} {h1 : Hs} (p : PB fx Q w R d h1) : PB fx Q w1 R d h1 := fun w' H' le' r => p w' H' (le.trans le') r
theorem PE.imp {X : Cx} {e : Expr} {t t' : TE} (p : PE X e t) (k : ∀ σ H Q, t' σ H Q → t σ H Q) : PE X e t' := ⟨fun pins s σ H Q I h => p.run pins s σ H Q I (k σ H Q h)⟩
theorem PT.imp {X : Cx} {e : Expr} {t t' : TT} (p : PT X e t) (k : ∀ σ H Q, t' σ H Q → t σ H Q) : PT X e t' := ⟨fun pins s σ H Q I h => p.run pins s σ H Q I (k σ H Q h)⟩
theorem PA.imp {X : Cx} {e : List Expr} {t t' : TA} (p : PA X e t) (k : ∀ σ H Q, t' σ H Q → t σ H Q) : PA X e t' := ⟨fun pos pins s σ H Q I h => p.run pos pins s σ H Q I (k σ H Q h)⟩

/-! ### values at hand -/
theorem Rel.int_inv {i : Int} {v : V} (r : Rel fx w (.int i) v) : v = .int i := r
theorem Rel.lst_at (fr : HR fx w R h H) {ds : List D} {v : V} (r : Rel fx w (.lst ds) v) : ∃ a vs, v = .ref a ∧ H a = some (.lst vs) ∧ Rels fx w ds vs := by
  obtain ⟨a, vs, e, q, r⟩ := r
  exact ⟨a, vs, e, fr.sF _ _ q, r⟩
theorem Rel.tup_at (fr : HR fx w R h H) {ds : List D} {v : V} (r : Rel fx w (.tup ds) v) : ∃ a vs, v = .ref a ∧ SqT fx.K H a vs ∧ Rels fx w ds vs := by
  obtain ⟨a, vs, e, q, r⟩ := r
  exact ⟨a, vs, e, sqT_mono fr.sF q, r⟩
theorem Rel.scr_at (fr : HR fx w R h H) {ns : List Int} {v : V} (r : Rel fx w (.scr ns) v) : ∃ a, v = .ref a ∧ SqL fx.K H a (ns.map V.int) := by
  obtain ⟨a, e, q⟩ := r
  exact ⟨a, e, fr.sF.seq q⟩
theorem Rel.cell_at (fr : HR fx w R h H) {n : Nat} {c : HC} {v : V} (r : Rel fx w (.ref n) v) (e : h.cells n = some c) : ∃ a o, v = .ref a ∧ w.ph n = some a ∧ w.F a = none ∧ R a = none ∧ H a = some o ∧ CRel fx w c o := by
  obtain ⟨a, e1, e2⟩ := r
  obtain ⟨b, o, q1, q2, q3, q4, q5⟩ := fr.live n c e
  rw [e2] at q1; cases q1
  exact ⟨a, o, e1, e2, q2, q3, q4, q5⟩
/-- a new tuple, then the end -/
theorem PD.newTup {ds : List D} {vs : List V} (p : PD fx Q w R (.tup ds) h) (r : HR fx w R h H) (q : Rels fx w ds vs) {a : Addr} (n : H a = none) : Q (.ref a) (upd H a (.tup vs)) := by
  have n1 := (r.none n).1
  have le : Wle w (w.add a (.tup vs)) := Wd.le_add n1
  exact p _ _ _ le (r.lay n) ⟨a, vs, rfl, .inl (.inl upd_same), Rels.mono le ds vs q⟩
theorem PD.newLst {ds : List D} {vs : List V} (p : PD fx Q w R (.lst ds) h) (r : HR fx w R h H) (q : Rels fx w ds vs) {a : Addr} (n : H a = none) : Q (.ref a) (upd H a (.lst vs)) := by
  have n1 := (r.none n).1
  have le : Wle w (w.add a (.lst vs)) := Wd.le_add n1
  exact p _ _ _ le (r.lay n) ⟨a, vs, rfl, upd_same, Rels.mono le ds vs q⟩
theorem PC.newLst {ds : List D} {vs : List V} (p : PC fx Q w R ds h) (r : HR fx w R h H) (q : Rels fx w ds vs) {a : Addr} (n : H a = none) : Q (.ref a) (upd H a (.lst vs)) :=
  p _ a vs _ (Wle.refl w) (r.none n).2.1 (r.layR n) q

/-! ### truth -/
theorem kz_empty {ks : List DKey} {ds : List D} {vs : List V} (l : ks.length = ds.length) (r : Rels fx w ds vs) : ((ks.map kD).zip vs).isEmpty = ks.isEmpty := by
  have e := r.length
  cases ks with
  | nil => rfl
  | cons k ks =>
    cases vs with
    | nil => rw [List.length_nil] at e; rw [e] at l; simp at l
    | cons v vs => rfl
theorem emp_eq {ds : List D} {vs : List V} (r : Rels fx w ds vs) : vs.isEmpty = ds.isEmpty := by
  cases ds with
  | nil => cases r; rfl
  | cons d ds => obtain ⟨v, u, e, _⟩ := r; subst e; rfl
theorem truth_eq {d : D} (hd : ∀ n, d ≠ .ref n) : truth d = M.opt (truthD d) := by
  cases d with
  | ref n => exact absurd rfl (hd n)
  | _ => rfl
theorem truth_out {d : D} (hd : ∀ n, d ≠ .ref n) {Qb : Bool → Hs → Prop} {X : Exn → Hs → Prop} (o : Out (truth d h) Qb X) : ∃ k, truthD d = some k ∧ Qb k h := by
  rw [truth_eq hd] at o
  exact o.opt
theorem truth_ok (r : HR fx w R h H) {d : D} {v : V} (q : Rel fx w d v) {Qb : Bool → Hs → Prop} {X : Exn → Hs → Prop} (o : Out (truth d h) Qb X) : ∃ k, TruV fx.K v H k ∧ Qb k h := by
  cases d with
  | ref n =>
    obtain ⟨c, e, o⟩ := (Out.bnd.mp o).cell
    obtain ⟨k, e2, o⟩ := o.opt
    obtain ⟨a, u, rfl, _, _, _, hu, cr⟩ := Rel.cell_at r q e
    refine ⟨k, ?_, o⟩
    cases c with
    | lst ds =>
      obtain ⟨vs, rfl, rs⟩ := cr
      cases e2
      exact .inl ⟨vs, .inl (.inl hu), by rw [emp_eq rs]⟩
    | dk ks ds =>
      obtain ⟨vs, rfl, l, rs⟩ := cr
      cases e2
      exact .inr (.inr ⟨_, hu, by rw [kz_empty l rs]⟩)
    | ins _ _ _ => cases e2
  | non => obtain ⟨k, e, o⟩ := truth_out (fun _ => by intro z; cases z) o; cases e; cases q; exact ⟨_, rfl, o⟩
  | bl b => obtain ⟨k, e, o⟩ := truth_out (fun _ => by intro z; cases z) o; cases e; cases q; exact ⟨_, rfl, o⟩
  | int b => obtain ⟨k, e, o⟩ := truth_out (fun _ => by intro z; cases z) o; cases e; cases q; exact ⟨_, rfl, o⟩
  | str s =>
    obtain ⟨k, e, o⟩ := truth_out (fun _ => by intro z; cases z) o
    cases q
    have e : (if s.length ≤ line then some (s.length != 0) else none) = some k := e
    by_cases hz : s.length ≤ line
    · rw [if_pos hz] at e; cases e
      refine ⟨_, ⟨?_, ?_⟩, o⟩
      · show s.toArray.size ≤ sizeLine
        rw [List.size_toArray]; exact hz
      · show _ = (((s.toArray.size : Nat) : Int) != 0)
        rw [List.size_toArray]
        cases s with
        | nil => rfl
        | cons c r => simp <;> omega
    · rw [if_neg hz] at e; cases e
  | tup ds =>
    obtain ⟨k, e, o⟩ := truth_out (fun _ => by intro z; cases z) o; cases e
    obtain ⟨a, vs, rfl, hq, rs⟩ := Rel.tup_at r q
    exact ⟨_, .inr (.inl ⟨vs, hq, by rw [emp_eq rs]⟩), o⟩
  | lst ds =>
    obtain ⟨k, e, o⟩ := truth_out (fun _ => by intro z; cases z) o; cases e
    obtain ⟨a, vs, rfl, hq, rs⟩ := Rel.lst_at r q
    exact ⟨_, .inl ⟨vs, .inl (.inl hq), by rw [emp_eq rs]⟩, o⟩
  | dk ks ds =>
    obtain ⟨k, e, o⟩ := truth_out (fun _ => by intro z; cases z) o; cases e
    obtain ⟨a, vs, rfl, hq, l, rs⟩ := q
    exact ⟨_, .inr (.inr ⟨_, r.sF _ _ hq, by rw [kz_empty l rs]⟩), o⟩
  | scr _ => obtain ⟨k, e, _⟩ := truth_out (fun _ => by intro z; cases z) o; cases e
  | obj _ _ _ => obtain ⟨k, e, _⟩ := truth_out (fun _ => by intro z; cases z) o; cases e

/-! ### names and constants -/
variable {X : Cx} {e a b c : Expr} {f g f3 : Env → M D} {pos : Pos}
theorem je_var {i : Nat} {x : Str} (zs : Std Z) (hN : X.N[i]? = some x) (hv : Vis X.env.scope x) (hd : (x == ("__debug__" : Str)) = false) (hcd : (x == ("__classdict__" : Str)) = false) : PE X (.Name x pos) (TD fx Z fun ρ => getSl ρ i) := by
  refine PE.imp (pe_var hN hv hd hcd) fun σ H Q ⟨w, R, ρ, h, fr, o⟩ => ?_
  unfold getSl at o
  cases e : ρ[i]? with
  | none => simp only [e] at o; exact o.elim
  | some s =>
    simp only [e] at o
    cases s with
    | val d =>
      obtain ⟨v, e1, r⟩ := fr.sr.at_ i _ e
      exact ⟨v, e1, o w v H (Wle.refl w) fr.hr r⟩
    | non => exact o.elim
    | own c => exact o.elim
    | fn => exact o.elim
    | exn _ => exact o.elim
theorem je_c {d : D} {v : V} (p : PE X e (tC v)) (r : ∀ w, Rel fx w d v) : PE X e (TD fx Z fun _ => M.ret d) :=
  PE.imp p fun σ H Q ⟨w, R, ρ, h, fr, o⟩ => o w v H (Wle.refl w) fr.hr (r w)

/-! ### operators -/
theorem je_bin {op : Operator} {r : R2} (zs : Std Z) (ho : OpR X (binaryOp op) r) (ha : PE X a (TD fx Z f)) (hb : PE X b (TD fx Z g))
    (rule : ∀ (w : Wd) (R : Hp) (h : Hs) (H : Hp) (x y : V) (d1 d2 d : D) (Q : VK), HR fx w R h H → Rel fx w d1 x → Rel fx w d2 y → binP op d1 d2 = some d → PD fx Q w R d h → r x y H Q) :
    PE X (.BinOp a op b pos) (TD fx Z fun ρ => do let x ← f ρ; let y ← g ρ; M.opt (binP op x y)) := by
  refine PE.imp (pe_op ho ha hb) fun σ H Q ⟨w, R, ρ, h, fr, o⟩ => ?_
  refine TD.then zs fr (Out.bnd.mp o) fun w1 x H1 d1 h1 le1 fr1 r1 o1 => ?_
  refine TD.then zs fr1 (zle zs le1 (Out.bnd.mp o1)) fun w2 y H2 d2 h2 le2 fr2 r2 o2 => ?_
  obtain ⟨d, e, o3⟩ := o2.opt
  exact rule w2 R h2 H2 x y d1 d2 d Q fr2.hr (Rel.mono le2 _ _ r1) r2 e (o3.le (le1.trans le2))
theorem je_neg (zs : Std Z) (ha : PE X a (TD fx Z f)) : PE X (.UnaryOp .USub a pos) (TD fx Z fun ρ => do let x ← f ρ; match x with | .int i => pure (.int (-i)) | _ => M.fail) := by
  refine PE.imp (pe_un un_neg ha) fun σ H Q ⟨w, R, ρ, h, fr, o⟩ => ?_
  refine TD.then zs fr (Out.bnd.mp o) fun w1 x H1 d1 h1 le1 fr1 r1 o1 => ?_
  cases d1 with
  | int i => cases r1; exact ⟨i, rfl, o1 w1 _ H1 le1 fr1.hr rfl⟩
  | _ => exact o1.elim
theorem je_and {rest : List Expr} (zs : Std Z) (hK : X.K = fx.K) (ha : PE X a (TD fx Z f)) (hb : PE X (.BoolOp .And (b :: rest) pos) (TD fx Z g)) :
    PE X (.BoolOp .And (a :: b :: rest) pos) (TD fx Z fun ρ => do let x ← f ρ; let t ← truth x; if t then g ρ else pure x) := by
  refine PE.imp (pe_andT ha hb) fun σ H Q ⟨w, R, ρ, h, fr, o⟩ => ?_
  refine TD.then zs fr (Out.bnd.mp o) fun w1 x H1 d1 h1 le1 fr1 r1 o1 => ?_
  obtain ⟨k, hk, o2⟩ := truth_ok fr1.hr r1 (Out.bnd.mp o1)
  rw [hK]
  refine ⟨k, hk, ?_⟩
  cases k with
  | true => exact iteT ⟨w1, R, ρ, h1, fr1, zle zs le1 (o2.imp (fun d h1 p => p.le le1) fun _ _ x => x)⟩
  | false => exact iteF (o2 w1 x H1 le1 fr1.hr r1)
theorem je_or {rest : List Expr} (zs : Std Z) (hK : X.K = fx.K) (ha : PE X a (TD fx Z f)) (hb : PE X (.BoolOp .Or (b :: rest) pos) (TD fx Z g)) :
    PE X (.BoolOp .Or (a :: b :: rest) pos) (TD fx Z fun ρ => do let x ← f ρ; let t ← truth x; if t then pure x else g ρ) := by
  refine PE.imp (pe_orT ha hb) fun σ H Q ⟨w, R, ρ, h, fr, o⟩ => ?_
  refine TD.then zs fr (Out.bnd.mp o) fun w1 x H1 d1 h1 le1 fr1 r1 o1 => ?_
  obtain ⟨k, hk, o2⟩ := truth_ok fr1.hr r1 (Out.bnd.mp o1)
  rw [hK]
  refine ⟨k, hk, ?_⟩
  cases k with
  | true => exact iteT (o2 w1 x H1 le1 fr1.hr r1)
  | false => exact iteF ⟨w1, R, ρ, h1, fr1, zle zs le1 (o2.imp (fun d h1 p => p.le le1) fun _ _ x => x)⟩
theorem je_not (zs : Std Z) (hK : X.K = fx.K) (ha : PE X a (TD fx Z f)) : PE X (.UnaryOp .Not a pos) (TD fx Z fun ρ => do let x ← f ρ; let t ← truth x; pure (.bl (!t))) := by
  refine PE.imp (pe_notT ha) fun σ H Q ⟨w, R, ρ, h, fr, o⟩ => ?_
  refine TD.then zs fr (Out.bnd.mp o) fun w1 x H1 d1 h1 le1 fr1 r1 o1 => ?_
  obtain ⟨k, hk, o2⟩ := truth_ok fr1.hr r1 (Out.bnd.mp o1)
  rw [hK]
  exact ⟨k, hk, o2 w1 _ H1 le1 fr1.hr rfl⟩
/-! ### tests -/
/-- the value's truth -/
def tru (f : Env → M D) : Env → M Bool := fun ρ => do let x ← f ρ; truth x
/-- an expression that is no comparison, and, or, not, .. if .. else -/
theorem jt_val (zs : Std Z) (hK : X.K = fx.K) (ha : PE X a (TD fx Z f)) (he : ∀ whole, isTrue a X.env whole = (do let v ← whole; standAt a.pos; holding [v] (truthy v))) : PT X a (TB fx Z (tru f)) := by
  refine PT.imp (pt_truth ha he) fun σ H Q ⟨w, R, ρ, h, fr, o⟩ => ?_
  refine TD.then zs fr (Out.bnd.mp o) fun w1 x H1 d1 h1 le1 fr1 r1 o1 => ?_
  obtain ⟨k, hk, o2⟩ := truth_ok fr1.hr r1 o1
  exact ⟨k, by rw [hK]; exact hk, o2 w1 H1 le1 fr1.hr⟩
theorem jt_not (zs : Std Z) (ha : PT X a (TB fx Z (tru f))) : PT X (.UnaryOp .Not a pos) (TB fx Z (tru fun ρ => do let x ← f ρ; let t ← truth x; pure (.bl (!t)))) := by
  refine PT.imp (pt_not ha) fun σ H Q ⟨w, R, ρ, h, fr, o⟩ => ?_
  have o' : Out (tru f ρ h) (fun b h1 => PB fx Q w R (!b) h1) (Z w R) := by
    have o1 := Out.bnd.mp (Out.bnd.mp o)
    refine Out.bnd.mpr (o1.imp (fun d h1 q => ?_) fun _ _ x => x)
    exact (Out.bnd.mp q).imp (fun t h2 q => q) fun _ _ x => x
  exact TB.then zs fr o' fun w1 H1 k h1 le1 fr1 q => q w1 H1 le1 fr1.hr
end
end PL
end
section
set_option Elab.async false
set_option linter.all false
set_option maxHeartbeats 1000000
/-! PL4: operators, comparisons. -/
namespace PL
open PySem PySem.Spec PyProof.Rows L2
theorem line_eq : line = sizeLine := by rw [sizeLine_eq]; rfl
theorem st_len (s : List Nat) : (st s).length = s.length := by show s.toArray.size = _; simp
theorem st_app (x y : List Nat) : st x ++ st y = st (x ++ y) := by
  show (⟨x.toArray ++ y.toArray⟩ : Str) = ⟨(x ++ y).toArray⟩
  rw [List.append_toArray]
theorem st_inj {x y : List Nat} : st x = st y ↔ x = y := ⟨fun h => by injection h with h; simpa using h, fun h => by rw [h]⟩
section
variable {fx : Fx} {Z : XW} {w : Wd} {R : Hp} {ρ : Env} {σ : L2.St} {h : Hs} {H : Hp} {Q : VK} {X : Cx}
theorem or_bin {f : Value → Value → Sem Value} {r r' : R2} (h : OpR X f r) (h' : OpR X f r') : OpR X f (fun x y H Q => r x y H Q ∨ r' x y H Q) := h.or h'
/-- the rules of an operator: by the values' readings -/
def BinOk (fx : Fx) (op : Operator) (r : R2) : Prop := ∀ (w : Wd) (R : Hp) (h : Hs) (H : Hp) (x y : V) (d1 d2 d : D) (Q : VK), HR fx w R h H → Rel fx w d1 x → Rel fx w d2 y → binP op d1 d2 = some d → PD fx Q w R d h → r x y H Q
theorem PD.now {d : D} {v : V} (p : PD fx Q w R d h) (r : HR fx w R h H) (q : Rel fx w d v) : Q v H := p w v H (Wle.refl w) r q
theorem rels_nil {ds : List D} {vs : List V} (r : Rels fx w ds vs) : vs = [] ↔ ds = [] := by
  cases ds with
  | nil => cases r; simp
  | cons d ds => obtain ⟨v, u, e, _⟩ := r; subst e; simp
def rAddA (K : PySem.W.Frag) : R2 := fun x y H Q => (∃ i j, x = .int i ∧ y = .int j ∧ Q (.int (i + j)) H) ∨ (∃ i j, x = .str i ∧ y = .str j ∧ i.length + j.length ≤ sizeLine ∧ Q (.str (i ++ j)) H) ∨ rCatA K x y H Q
theorem op_addA : OpR X (binaryOp .Add) (rAddA X.K) := op_add.or (op_add_str.or op_catA)
theorem bin_add : BinOk fx .Add (rAddA fx.K) := by
  intro w R h H x y d1 d2 d Q hr r1 r2 e p
  cases d1 with
  | int i =>
    cases d2 with
    | int j => cases e; cases r1; cases r2; exact .inl ⟨i, j, rfl, rfl, p.now hr rfl⟩
    | _ => cases e
  | str s =>
    cases d2 with
    | str z =>
      have e : (if s.length + z.length ≤ line then some (D.str (s ++ z)) else none) = some d := e
      by_cases hz : s.length + z.length ≤ line
      · rw [if_pos hz] at e; cases e; cases r1; cases r2
        exact .inr (.inl ⟨_, _, rfl, rfl, by rw [st_len, st_len, ← line_eq]; exact hz, by rw [st_app]; exact p.now hr rfl⟩)
      · rw [if_neg hz] at e; cases e
    | _ => cases e
  | tup s =>
    cases d2 with
    | tup z =>
      have e : (if s.length + z.length ≤ line then some (D.tup (s ++ z)) else none) = some d := e
      by_cases hz : s.length + z.length ≤ line
      · rw [if_pos hz] at e; cases e
        obtain ⟨a, vs, rfl, q1, k1⟩ := Rel.tup_at hr r1
        obtain ⟨b, us, rfl, q2, k2⟩ := Rel.tup_at hr r2
        refine .inr (.inr ⟨a, b, vs, us, rfl, rfl, q1, q2, by rw [← k1.length, ← k2.length, ← line_eq]; exact hz, fun z1 => ?_, fun _ z2 => ?_, fun _ _ l hl => p.newTup hr (k1.app k2) hl⟩)
        · have : s = [] := (rels_nil k1).mp z1
          subst this
          exact p.now hr r2
        · have : z = [] := (rels_nil k2).mp z2
          subst this
          rw [List.append_nil] at p
          exact p.now hr r1
      · rw [if_neg hz] at e; cases e
    | _ => cases e
  | _ => cases e
theorem bin_sub : BinOk fx .Sub (rI0 fun i j => .int (i - j)) := by
  intro w R h H x y d1 d2 d Q hr r1 r2 e p
  cases d1 with
  | int i =>
    cases d2 with
    | int j => cases e; cases r1; cases r2; exact ⟨i, j, rfl, rfl, p.now hr rfl⟩
    | _ => cases e
  | _ => cases e
def CMulP (i j : Int) : Prop := mulOk i j = true
theorem CMulP.ok {i j : Int} (h : CMulP i j) : IntMulOk i j := by
  have b : ∀ x : Int, Builtin.Int.intBits x ≤ x.natAbs.log2 + 1 := fun x => by
    unfold Builtin.Int.intBits
    split <;> omega
  have h1 := b i
  have h2 := b j
  have h3 : i.natAbs.log2 + j.natAbs.log2 < 100000000 := of_decide_eq_true h
  have e : bitsLine = 134217728 := by decide
  unfold IntMulOk
  intro z
  rw [Bool.and_eq_true] at z
  have z2 := z.2
  unfold Builtin.Int.intTooBig at z2
  have z3 := of_decide_eq_true z2
  rw [e] at z3
  omega
def rMulStr : R2 := fun x y H Q => ∃ (c : Nat) (n : Int), x = .str (st [c]) ∧ y = .int n ∧ -1000000 ≤ n ∧ n ≤ 10000 ∧ Q (.str (st (List.replicate n.toNat c))) H
theorem fold_rep (c : Nat) : ∀ (n : Nat) (acc : Array Nat), (List.replicate n #[c]).foldl (· ++ ·) acc = acc ++ (List.replicate n c).toArray
  | 0, acc => by simp
  | n + 1, acc => by
    rw [List.replicate_succ, List.foldl_cons, fold_rep c n, List.replicate_succ]
    apply Array.toList_inj.mp
    simp only [Array.toList_append, List.append_assoc]
    rfl
theorem op_mulStr : OpR X (binaryOp .Mult) rMulStr := by
  intro pins s σ H x y v u Q I rx ry h
  obtain ⟨c, n, rfl, rfl, h1, h2, q⟩ := h
  obtain ⟨t, rfl⟩ := rx
  obtain ⟨t', rfl⟩ := ry
  refine SB.mul (mulOk_of 16 1048576 (by rw [st_len]; simp) (by omega) (by omega) (by decide) (by decide)) fun t' k => ?_
  have e : Txt.mul (st [c]) n = st (List.replicate n.toNat c) := by
    unfold Txt.mul
    by_cases hn : n < 1
    · rw [if_pos hn, show n.toNat = 0 by omega]; rfl
    · rw [if_neg hn]
      by_cases h1 : (n == 1 || (st [c]).length == 0) = true
      · rw [if_pos h1]
        have : n = 1 := by
          rw [Bool.or_eq_true] at h1
          rcases h1 with z | z
          · exact eq_of_beq z
          · rw [st_len] at z; simp at z
        rw [this]; rfl
      · rw [if_neg h1]
        show (⟨_⟩ : Str) = ⟨_⟩
        congr 1
        show (List.replicate n.toNat #[c]).foldl (· ++ ·) #[] = _
        rw [fold_rep c n.toNat #[]]
        apply Array.toList_inj.mp
        simp
  rw [e]
  exact ⟨.str _, H, I.tok _, ⟨_, rfl⟩, q⟩
def rMulA : R2 := fun x y H Q => rI CMulP (fun i j => .int (i * j)) x y H Q ∨ rMulStr x y H Q
theorem op_mulA : OpR X (binaryOp .Mult) rMulA := (opI fun _ _ _ _ _ _ _ hc q => mul_int q (CMulP.ok hc) : OpR X (binaryOp .Mult) (rI CMulP fun i j => .int (i * j))).or op_mulStr
theorem flat_rep (c : Nat) (n : Nat) : (List.replicate n [c]).flatten = List.replicate n c := by
  induction n with
  | zero => rfl
  | succ n ih => rw [List.replicate_succ, List.flatten_cons, ih, List.replicate_succ]; rfl
theorem bin_mul : BinOk fx .Mult rMulA := by
  intro w R h H x y d1 d2 d Q hr r1 r2 e p
  cases d1 with
  | int i =>
    cases d2 with
    | int j =>
      have e : (if mulOk i j then some (D.int (i * j)) else none) = some d := e
      by_cases hz : mulOk i j = true
      · rw [if_pos hz] at e; cases e; cases r1; cases r2; exact .inl ⟨i, j, rfl, rfl, hz, p.now hr rfl⟩
      · rw [if_neg hz] at e; cases e
    | _ => cases e
  | str s =>
    cases d2 with
    | int n =>
      have e : (if -1000000 ≤ n ∧ n ≤ 10000 ∧ s.length = 1 then some (D.str (List.replicate n.toNat s).flatten) else none) = some d := e
      by_cases hz : -1000000 ≤ n ∧ n ≤ 10000 ∧ s.length = 1
      · rw [if_pos hz] at e; cases e; cases r1; cases r2
        obtain ⟨h1, h2, h3⟩ := hz
        obtain ⟨c, rfl⟩ := List.length_eq_one_iff.mp h3
        rw [flat_rep] at p
        exact .inr ⟨c, n, rfl, rfl, h1, h2, p.now hr rfl⟩
      · rw [if_neg hz] at e; cases e
    | _ => cases e
  | _ => cases e
def CDivX (i j : Int) : Prop := j ≠ 0 ∧ j.natAbs.log2 < 9000
theorem op_fdivX : OpR X (binaryOp .FloorDiv) (rI CDivX fun i j => .int (i.fdiv j)) := opI fun _ _ _ _ _ _ _ hc q => floordiv_int hc.1 q (.inl (PyProof.noPylong_of_log2 hc.2))
theorem bin_ii {op : Operator} {r : R2} (k : ∀ (i j : Int) (d : D) (H : Hp) (Q : VK), binP op (.int i) (.int j) = some d → (∀ z, d = .int z → Q (.int z) H) → r (.int i) (.int j) H Q) (hi : ∀ i j d, binP op (.int i) (.int j) = some d → ∃ z, d = .int z)
    (ho : ∀ d1 d2 d, binP op d1 d2 = some d → ∃ i j, d1 = .int i ∧ d2 = .int j) : BinOk fx op r := by
  intro w R h H x y d1 d2 d Q hr r1 r2 e p
  obtain ⟨i, j, rfl, rfl⟩ := ho _ _ _ e
  cases r1; cases r2
  refine k i j d H Q e fun z ez => ?_
  subst ez
  exact p.now hr rfl
theorem of_ite {α : Type} {c : Prop} [Decidable c] {a d : α} (e : (if c then some a else none) = some d) : c ∧ a = d := by
  by_cases h : c
  · rw [if_pos h] at e; exact ⟨h, Option.some.inj e⟩
  · rw [if_neg h] at e; cases e
theorem bin_fdiv : BinOk fx .FloorDiv (rI CDivX fun i j => .int (i.fdiv j)) := by
  intro w R h H x y d1 d2 d Q hr r1 r2 e p
  cases d1 with
  | int i =>
    cases d2 with
    | int j =>
      obtain ⟨hz, rfl⟩ := of_ite (show (if j ≠ 0 ∧ j.natAbs.log2 < 9000 then some (D.int (i.fdiv j)) else none) = some d from e)
      cases r1; cases r2; exact ⟨i, j, rfl, rfl, hz, p.now hr rfl⟩
    | _ => cases e
  | _ => cases e
theorem bin_mod : BinOk fx .Mod (rI (fun _ j => j ≠ 0) fun i j => .int (i.fmod j)) := by
  intro w R h H x y d1 d2 d Q hr r1 r2 e p
  cases d1 with
  | int i =>
    cases d2 with
    | int j =>
      obtain ⟨hz, rfl⟩ := of_ite (show (if j ≠ 0 then some (D.int (i.fmod j)) else none) = some d from e)
      cases r1; cases r2; exact ⟨i, j, rfl, rfl, hz, p.now hr rfl⟩
    | _ => cases e
  | _ => cases e
theorem bin_pow : BinOk fx .Pow (rI CPow fun i j => .int (i ^ j.toNat)) := by
  intro w R h H x y d1 d2 d Q hr r1 r2 e p
  cases d1 with
  | int i =>
    cases d2 with
    | int j =>
      obtain ⟨⟨h1, h2, h3⟩, rfl⟩ := of_ite (show (if 0 ≤ j ∧ j ≤ 1000 ∧ i.natAbs < 1000 then some (D.int (i ^ j.toNat)) else none) = some d from e)
      cases r1; cases r2; exact ⟨i, j, rfl, rfl, ⟨h1, by omega, by omega⟩, p.now hr rfl⟩
    | _ => cases e
  | _ => cases e
theorem bin_shl : BinOk fx .LShift (rI CPow fun i j => .int (i * 2 ^ j.toNat)) := by
  intro w R h H x y d1 d2 d Q hr r1 r2 e p
  cases d1 with
  | int i =>
    cases d2 with
    | int j =>
      obtain ⟨⟨h1, h2, h3⟩, rfl⟩ := of_ite (show (if 0 ≤ j ∧ j ≤ 1000 ∧ i.natAbs < 1000 then some (D.int (i * 2 ^ j.toNat)) else none) = some d from e)
      cases r1; cases r2; exact ⟨i, j, rfl, rfl, ⟨h1, by omega, by omega⟩, p.now hr rfl⟩
    | _ => cases e
  | _ => cases e
theorem bin_shr : BinOk fx .RShift (rI (fun _ j => 0 ≤ j) fun i j => .int (i / 2 ^ j.toNat)) := by
  intro w R h H x y d1 d2 d Q hr r1 r2 e p
  cases d1 with
  | int i =>
    cases d2 with
    | int j =>
      obtain ⟨hz, rfl⟩ := of_ite (show (if 0 ≤ j then some (D.int (i / 2 ^ j.toNat)) else none) = some d from e)
      cases r1; cases r2; exact ⟨i, j, rfl, rfl, hz, p.now hr rfl⟩
    | _ => cases e
  | _ => cases e
theorem bin_and : BinOk fx .BitAnd (rI0 fun i j => .int (Builtin.bitAnd i j)) := by
  intro w R h H x y d1 d2 d Q hr r1 r2 e p
  cases d1 with
  | int i =>
    cases d2 with
    | int j => cases e; cases r1; cases r2; exact ⟨i, j, rfl, rfl, p.now hr rfl⟩
    | _ => cases e
  | _ => cases e
/-- the operators that are served -/
def opSrv : Operator → Bool
  | .Add => true | .Sub => true | .Mult => true | .FloorDiv => true | .Mod => true | .Pow => true | .LShift => true | .RShift => true | .BitAnd => true
  | _ => false
theorem je_op {a b : Expr} {f g : Env → M D} {pos : Pos} (op : Operator) (so : opSrv op = true) (zs : Std Z) (hK : X.K = fx.K) (ha : PE X a (TD fx Z f)) (hb : PE X b (TD fx Z g)) :
    PE X (.BinOp a op b pos) (TD fx Z fun ρ => do let x ← f ρ; let y ← g ρ; M.opt (binP op x y)) := by
  cases op with
  | Add => exact je_bin zs op_addA ha hb (hK ▸ bin_add)
  | Sub => exact je_bin zs op_sub ha hb bin_sub
  | Mult => exact je_bin zs op_mulA ha hb bin_mul
  | FloorDiv => exact je_bin zs op_fdivX ha hb bin_fdiv
  | Mod => exact je_bin zs op_modN ha hb bin_mod
  | Pow => exact je_bin zs op_pow ha hb bin_pow
  | LShift => exact je_bin zs op_shl ha hb bin_shl
  | RShift => exact je_bin zs op_shr ha hb bin_shr
  | BitAnd => exact je_bin zs op_and ha hb bin_and
  | _ => cases so

/-! ### comparisons -/
mutual
theorem Rel.dp (hr : HR fx w R h H) : ∀ (d : D) (v : V) (p : PyData), Rel fx w d v → pdD d = some p → Dp fx.K H v p
  | .non, v, p, r, e => by cases r; cases e; exact .non
  | .bl b, v, p, r, e => by cases r; cases e; exact .bl b
  | .int b, v, p, r, e => by cases r; cases e; exact .int b
  | .str b, v, p, r, e => by cases r; cases e; exact .str _
  | .tup ds, v, p, r, e => by
    obtain ⟨a, vs, rfl, q, rs⟩ := Rel.tup_at hr r
    cases e2 : pdDs ds with
    | none => rw [pdD, e2] at e; cases e
    | some ps => rw [pdD, e2] at e; cases e; exact .tup q (Rels.dp hr ds vs ps rs e2)
  | .lst ds, v, p, r, e => by
    obtain ⟨a, vs, rfl, q, rs⟩ := Rel.lst_at hr r
    cases e2 : pdDs ds with
    | none => rw [pdD, e2] at e; cases e
    | some ps => rw [pdD, e2] at e; cases e; exact .lst (.inl (.inl q)) (Rels.dp hr ds vs ps rs e2)
  | .scr _, _, _, _, e => by cases e
  | .dk _ _, _, _, _, e => by cases e
  | .obj _ _ _, _, _, _, e => by cases e
  | .ref _, _, _, _, e => by cases e
theorem Rels.dp (hr : HR fx w R h H) : ∀ (ds : List D) (vs : List V) (ps : List PyData), Rels fx w ds vs → pdDs ds = some ps → DpAll fx.K H vs ps
  | [], vs, ps, r, e => by cases r; cases e; exact .nil
  | d :: ds, vs, ps, ⟨v, u, e1, r1, r2⟩, e => by
    subst e1
    cases e2 : pdD d with
    | none => rw [pdDs, e2] at e; cases e
    | some p =>
      cases e3 : pdDs ds with
      | none => rw [pdDs, e2, e3] at e; cases e
      | some q => rw [pdDs, e2, e3] at e; cases e; exact .cons (Rel.dp hr d v p r1 e2) (Rels.dp hr ds u q r2 e3)
end
theorem eqPd_inv {a b : D} {k : Bool} (e : eqPd a b = some k) : ∃ p q, pdD a = some p ∧ pdD b = some q ∧ SeqAt.shaped p = true ∧ SeqAt.shaped q = true ∧ PyData.eqv p q = k := by
  unfold eqPd at e
  cases ea : pdD a with
  | none => rw [ea] at e; cases e
  | some p =>
    cases eb : pdD b with
    | none => rw [ea, eb] at e; cases e
    | some q =>
      rw [ea, eb] at e
      obtain ⟨hz, hk⟩ := of_ite (show (if (SeqAt.shaped p && SeqAt.shaped q) = true then some (PyData.eqv p q) else none) = some k from e)
      rw [Bool.and_eq_true] at hz
      exact ⟨p, q, rfl, rfl, hz.1, hz.2, hk⟩
theorem eqD_cases {a b : D} {k : Bool} (e : eqD a b = some k) : (∃ i j, a = .int i ∧ b = .int j ∧ k = decide (i = j)) ∨ (∃ i j, a = .str i ∧ b = .str j ∧ k = decide (i = j)) ∨ (∃ i j, a = .bl i ∧ b = .bl j ∧ k = decide (i = j)) ∨ eqPd a b = some k := by
  unfold eqD at e
  split at e
  · cases e; exact .inl ⟨_, _, rfl, rfl, rfl⟩
  · cases e; exact .inr (.inl ⟨_, _, rfl, rfl, rfl⟩)
  · cases e; exact .inr (.inr (.inl ⟨_, _, rfl, rfl, rfl⟩))
  · exact .inr (.inr (.inr e))
def CmpOk (fx : Fx) (op : CmpOp) (r : R2) : Prop := ∀ (w : Wd) (R : Hp) (h : Hs) (H : Hp) (x y : V) (d1 d2 : D) (k : Bool) (Q : VK), HR fx w R h H → Rel fx w d1 x → Rel fx w d2 y → cmpP op d1 d2 = some k → Q (.bl k) H → r x y H Q
theorem vint {i j : Int} : decide (V.int i = V.int j) = decide (i = j) := by by_cases e : i = j <;> simp [e]
theorem vbl {i j : Bool} : decide (V.bl i = V.bl j) = decide (i = j) := by by_cases e : i = j <;> simp [e]
theorem vstr {i j : List Nat} : decide (V.str (st i) = V.str (st j)) = decide (i = j) := by
  by_cases e : i = j
  · simp [e]
  · have : ¬ (V.str (st i) = V.str (st j)) := fun z => e (st_inj.mp (V.str.inj z))
    simp [e, this]
def rEqA (K : PySem.W.Frag) : R2 := fun x y H Q => rEq x y H Q ∨ rEqD K x y H Q
def rNeA (K : PySem.W.Frag) : R2 := fun x y H Q => rNe x y H Q ∨ rNeD K x y H Q
theorem cmp_eq : CmpOk fx .Eq (rEqA fx.K) := by
  intro w R h H x y d1 d2 k Q hr r1 r2 e q
  rcases eqD_cases (show eqD d1 d2 = some k from e) with ⟨i, j, rfl, rfl, rfl⟩ | ⟨i, j, rfl, rfl, rfl⟩ | ⟨i, j, rfl, rfl, rfl⟩ | e2
  · cases r1; cases r2; exact .inl ⟨rfl, by rw [vint]; exact q⟩
  · cases r1; cases r2; exact .inl ⟨rfl, by rw [vstr]; exact q⟩
  · cases r1; cases r2; exact .inl ⟨rfl, by rw [vbl]; exact q⟩
  · obtain ⟨p, p2, e3, e4, s1, s2, rfl⟩ := eqPd_inv e2
    exact .inr ⟨p, p2, Rel.dp hr _ _ _ r1 e3, Rel.dp hr _ _ _ r2 e4, s1, s2, q⟩
theorem cmp_ne : CmpOk fx .NotEq (rNeA fx.K) := by
  intro w R h H x y d1 d2 k Q hr r1 r2 e q
  obtain ⟨m, e1, rfl⟩ : ∃ m, eqD d1 d2 = some m ∧ (!m) = k := by
    have e : (eqD d1 d2).map (!·) = some k := e
    cases z : eqD d1 d2 with
    | none => rw [z] at e; cases e
    | some m => rw [z] at e; exact ⟨m, rfl, Option.some.inj e⟩
  rcases eqD_cases e1 with ⟨i, j, rfl, rfl, rfl⟩ | ⟨i, j, rfl, rfl, rfl⟩ | ⟨i, j, rfl, rfl, rfl⟩ | e2
  · cases r1; cases r2; exact .inl ⟨rfl, by rw [vint]; exact q⟩
  · cases r1; cases r2; exact .inl ⟨rfl, by rw [vstr]; exact q⟩
  · cases r1; cases r2; exact .inl ⟨rfl, by rw [vbl]; exact q⟩
  · obtain ⟨p, p2, e3, e4, s1, s2, rfl⟩ := eqPd_inv e2
    exact .inr ⟨p, p2, Rel.dp hr _ _ _ r1 e3, Rel.dp hr _ _ _ r2 e4, s1, s2, q⟩
theorem cmp_lt : CmpOk fx .Lt (rI0 fun i j => .bl (decide (i < j))) := by
  intro w R h H x y d1 d2 k Q hr r1 r2 e q
  cases d1 <;> cases d2 <;> cases e
  cases r1; cases r2; exact ⟨_, _, rfl, rfl, q⟩
theorem cmp_le : CmpOk fx .LtE (rI0 fun i j => .bl (decide (i ≤ j))) := by
  intro w R h H x y d1 d2 k Q hr r1 r2 e q
  cases d1 <;> cases d2 <;> cases e
  cases r1; cases r2; exact ⟨_, _, rfl, rfl, q⟩
theorem cmp_gt : CmpOk fx .Gt (rI0 fun i j => .bl (decide (j < i))) := by
  intro w R h H x y d1 d2 k Q hr r1 r2 e q
  cases d1 <;> cases d2 <;> cases e
  cases r1; cases r2; exact ⟨_, _, rfl, rfl, q⟩
theorem cmp_ge : CmpOk fx .GtE (rI0 fun i j => .bl (decide (j ≤ i))) := by
  intro w R h H x y d1 d2 k Q hr r1 r2 e q
  cases d1 <;> cases d2 <;> cases e
  cases r1; cases r2; exact ⟨_, _, rfl, rfl, q⟩
theorem isNon_v {d : D} {v : V} (r : Rel fx w d v) : decide (v = .non) = isNon d := by
  cases d with
  | non => cases r; rfl
  | bl _ => cases r; rfl
  | int _ => cases r; rfl
  | str _ => cases r; rfl
  | tup _ => obtain ⟨a, vs, rfl, _⟩ := r; rfl
  | lst _ => obtain ⟨a, vs, rfl, _⟩ := r; rfl
  | scr _ => obtain ⟨a, rfl, _⟩ := r; rfl
  | dk _ _ => obtain ⟨a, vs, rfl, _⟩ := r; rfl
  | obj _ _ _ => obtain ⟨a, dx, vs, rfl, _⟩ := r; rfl
  | ref _ => obtain ⟨a, rfl, _⟩ := r; rfl
def rIsA : R2 := fun x y H Q => (y = .non ∧ Q (.bl (decide (x = .non))) H) ∨ rIsB x y H Q
def rIsNotA : R2 := fun x y H Q => (y = .non ∧ Q (.bl (!decide (x = .non))) H) ∨ rNotB x y H Q
theorem is_inv {d1 d2 : D} {k : Bool} (e : cmpP .Is d1 d2 = some k) : (d2 = .non ∧ k = isNon d1) ∨ ∃ a b, d1 = .bl a ∧ d2 = .bl b ∧ k = (a == b) := by
  cases d2 with
  | non => exact .inl ⟨rfl, by cases d1 <;> exact (Option.some.inj e).symm⟩
  | bl b => cases d1 with
    | bl a => exact .inr ⟨a, b, rfl, rfl, (Option.some.inj e).symm⟩
    | _ => cases e
  | _ => cases d1 <;> cases e
theorem isnot_inv {d1 d2 : D} {k : Bool} (e : cmpP .IsNot d1 d2 = some k) : (d2 = .non ∧ k = !isNon d1) ∨ ∃ a b, d1 = .bl a ∧ d2 = .bl b ∧ k = !(a == b) := by
  cases d2 with
  | non => exact .inl ⟨rfl, by cases d1 <;> exact (Option.some.inj e).symm⟩
  | bl b => cases d1 with
    | bl a => exact .inr ⟨a, b, rfl, rfl, (Option.some.inj e).symm⟩
    | _ => cases e
  | _ => cases d1 <;> cases e
theorem cmp_is : CmpOk fx .Is rIsA := by
  intro w R h H x y d1 d2 k Q hr r1 r2 e q
  rcases is_inv e with ⟨rfl, rfl⟩ | ⟨a, b, rfl, rfl, rfl⟩
  · cases r2; exact .inl ⟨rfl, by rw [isNon_v r1]; exact q⟩
  · cases r1; cases r2
    exact .inr ⟨a, b, rfl, rfl, by
      have : decide (a = b) = (a == b) := by cases a <;> cases b <;> rfl
      rw [this]; exact q⟩
theorem cmp_isnot : CmpOk fx .IsNot rIsNotA := by
  intro w R h H x y d1 d2 k Q hr r1 r2 e q
  rcases isnot_inv e with ⟨rfl, rfl⟩ | ⟨a, b, rfl, rfl, rfl⟩
  · cases r2; exact .inl ⟨rfl, by rw [isNon_v r1]; exact q⟩
  · cases r1; cases r2
    exact .inr ⟨a, b, rfl, rfl, by
      have : decide (a = b) = (a == b) := by cases a <;> cases b <;> rfl
      rw [this]; exact q⟩
theorem flat_v {d : D} {v : V} (r : Rel fx w d v) (f : flatD d = true) : flatV v = true := by
  cases d with
  | non => cases r; rfl
  | bl _ => cases r; rfl
  | int _ => cases r; rfl
  | str _ => cases r; rfl
  | _ => cases f
theorem eqV_v {d e : D} {v u : V} (r : Rel fx w d v) (q : Rel fx w e u) (f : flatD d = true) (f2 : flatD e = true) : eqV v u = eqF d e := by
  cases d with
  | non => cases r; cases e with
    | non => cases q; rfl
    | bl _ => cases q; rfl
    | int _ => cases q; rfl
    | str _ => cases q; rfl
    | _ => cases f2
  | bl _ => cases r; cases e with
    | non => cases q; rfl
    | bl _ => cases q; rfl
    | int _ => cases q; rfl
    | str _ => cases q; rfl
    | _ => cases f2
  | int _ => cases r; cases e with
    | non => cases q; rfl
    | bl _ => cases q; rfl
    | int _ => cases q; rfl
    | str _ => cases q; rfl
    | _ => cases f2
  | str x => cases r; cases e with
    | non => cases q; rfl
    | bl _ => cases q; rfl
    | int _ => cases q; rfl
    | str z =>
      cases q
      show (st x == st z) = decide (x = z)
      by_cases e : x = z
      · simp [e]
      · have : ¬ st x = st z := fun y => e (st_inj.mp y)
        simp [e, this]
    | _ => cases f2
  | _ => cases f
theorem inV_v {d : D} {v : V} (r : Rel fx w d v) (f : flatD d = true) : ∀ {ds : List D} {vs : List V}, Rels fx w ds vs → ds.all flatD = true → vs.all flatV = true ∧ inV v vs = ds.any fun y => eqF y d
  | [], vs, rs, _ => by cases rs; exact ⟨rfl, rfl⟩
  | e :: ds, vs, ⟨u, us, e1, r1, r2⟩, fa => by
    subst e1
    rw [List.all_cons, Bool.and_eq_true] at fa
    obtain ⟨h1, h2⟩ := inV_v r f r2 fa.2
    refine ⟨by rw [List.all_cons, flat_v r1 fa.1, h1]; rfl, ?_⟩
    show (eqV u v || us.any fun y => eqV y v) = _
    rw [List.any_cons, eqV_v r1 r fa.1 f]
    congr 1
theorem inD_inv {d : D} {ds : List D} {k : Bool} (e : inD d ds = some k) : flatD d = true ∧ ds.all flatD = true ∧ k = ds.any fun y => eqF y d := by
  obtain ⟨hz, hk⟩ := of_ite (show (if (flatD d && ds.all flatD) = true then some (ds.any fun y => eqF y d) else none) = some k from e)
  rw [Bool.and_eq_true] at hz
  exact ⟨hz.1, hz.2, hk.symm⟩
def rInC (neg : Bool) : R2 := fun x y H Q => ∃ (c : Nat) (s : List Nat), x = .str (st [c]) ∧ y = .str (st s) ∧ Q (.bl (if neg then !decide (c ∈ s) else decide (c ∈ s))) H
def rInA (K : PySem.W.Frag) (neg : Bool) : R2 := fun x y H Q => rInC neg x y H Q ∨ rIn K neg x y H Q
end
end PL
end
section
set_option Elab.async false
set_option linter.all false
set_option maxHeartbeats 1000000
/-! PL5: in, chains, tests of comparisons, tuples, items, slices, isinstance. -/
namespace PL
open PySem PySem.Spec PyProof.Rows L2
section
variable {fx : Fx} {Z : XW} {w : Wd} {R : Hp} {ρ : Env} {σ : L2.St} {h : Hs} {H : Hp} {Q : VK} {X : Cx}
theorem dec_irrel {p : Prop} (i j : Decidable p) : @decide p i = @decide p j := by
  cases i <;> cases j <;> first | rfl | contradiction
theorem op_inC (neg : Bool) : OpR X (compareOp (if neg then .NotIn else .In)) (rInC neg) := by
  intro pins s σ H x y v u Q I rx ry hq
  obtain ⟨c, z, rfl, rfl, q⟩ := hq
  cases neg with
  | false => exact op_in_sign pins s σ H _ _ v u Q I rx ry ⟨c, st z, rfl, rfl, by rw [dec_irrel (p := c ∈ (st z).cps.toList) _ (inferInstanceAs (Decidable (c ∈ z)))]; exact q⟩
  | true => exact op_notIn_sign pins s σ H _ _ v u Q I rx ry ⟨c, st z, rfl, rfl, by rw [dec_irrel (p := c ∈ (st z).cps.toList) _ (inferInstanceAs (Decidable (c ∈ z)))]; exact q⟩
def rInDk (neg : Bool) : R2 := fun x y H Q => ∃ (k : DKey) (ks : List DKey) (vs : List V) (a : Addr), x = kV (kD k) ∧ y = .ref a ∧ H a = some (.dK ((ks.map kD).zip vs)) ∧ ks.length = vs.length ∧ Q (.bl (if neg then !decide (k ∈ ks) else decide (k ∈ ks))) H
theorem kD_inj {a b : DKey} (h : kD a = kD b) : a = b := by
  cases a <;> cases b
  · cases h; rfl
  · cases h
  · cases h
  · have := Sum.inr.inj h
    rw [st_inj.mp this]
def cmp2 (op : CmpOp) : Bool := match op with
  | .Eq => true | .NotEq => true | .Lt => true | .LtE => true | .Gt => true | .GtE => true | .Is => true | .IsNot => true | _ => false
theorem inA_str {neg : Bool} {d1 : D} {s : List Nat} {k : Bool} (e : cmpP (if neg then .NotIn else .In) d1 (.str s) = some k) : ∃ c, d1 = .str [c] ∧ k = (if neg then !decide (c ∈ s) else decide (c ∈ s)) := by
  cases neg with
  | false =>
    have e : cmpP .In d1 (.str s) = some k := e
    cases d1 with
    | str z => cases z with
      | nil => cases e
      | cons c r => cases r with
        | nil => cases e; exact ⟨c, rfl, rfl⟩
        | cons _ _ => cases e
    | _ => cases e
  | true =>
    have e : cmpP .NotIn d1 (.str s) = some k := e
    cases d1 with
    | str z => cases z with
      | nil => cases e
      | cons c r => cases r with
        | nil => cases e; exact ⟨c, rfl, rfl⟩
        | cons _ _ => cases e
    | _ => cases e
theorem inA_seq {neg : Bool} {d1 d2 : D} {ds : List D} {k : Bool} (hd : d2 = .lst ds ∨ d2 = .tup ds) (e : cmpP (if neg then .NotIn else .In) d1 d2 = some k) : ∃ b, inD d1 ds = some b ∧ k = (if neg then !b else b) := by
  cases neg with
  | false =>
    have e : cmpP .In d1 d2 = some k := e
    rcases hd with rfl | rfl
    · have e : inD d1 ds = some k := by
        cases d1 with
        | str z => cases z with
          | nil => exact e
          | cons c r => cases r <;> exact e
        | _ => exact e
      exact ⟨k, e, rfl⟩
    · have e : inD d1 ds = some k := by
        cases d1 with
        | str z => cases z with
          | nil => exact e
          | cons c r => cases r <;> exact e
        | _ => exact e
      exact ⟨k, e, rfl⟩
  | true =>
    have e : cmpP .NotIn d1 d2 = some k := e
    have e : (inD d1 ds).map (!·) = some k := by
      rcases hd with rfl | rfl
      · cases d1 with
        | str z => cases z with
          | nil => exact e
          | cons c r => cases r <;> exact e
        | _ => exact e
      · cases d1 with
        | str z => cases z with
          | nil => exact e
          | cons c r => cases r <;> exact e
        | _ => exact e
    cases z : inD d1 ds with
    | none => rw [z] at e; cases e
    | some b => rw [z] at e; exact ⟨b, rfl, (Option.some.inj e).symm⟩
/-- in, not in: a sign in a text, a flat thing in a list or tuple -/
theorem cmp_in (neg : Bool) : ∀ (w : Wd) (R : Hp) (h : Hs) (H : Hp) (x y : V) (d1 d2 : D) (k : Bool) (Q : VK), HR fx w R h H → Rel fx w d1 x → Rel fx w d2 y → (∀ ks vs, d2 ≠ .dk ks vs) → cmpP (if neg then .NotIn else .In) d1 d2 = some k → Q (.bl k) H → rInA fx.K neg x y H Q := by
  intro w R h H x y d1 d2 k Q hr r1 r2 nd e q
  cases d2 with
  | str s =>
    obtain ⟨c, rfl, rfl⟩ := inA_str e
    cases r1; cases r2
    exact .inl ⟨c, s, rfl, rfl, q⟩
  | lst ds =>
    obtain ⟨b, e1, rfl⟩ := inA_seq (.inl rfl) e
    obtain ⟨f1, f2, rfl⟩ := inD_inv e1
    obtain ⟨a, vs, rfl, hq, rs⟩ := Rel.lst_at hr r2
    obtain ⟨g1, g2⟩ := inV_v r1 f1 rs f2
    exact .inr ⟨a, vs, rfl, .inl (.inl (.inl hq)), flat_v r1 f1, g1, by rw [g2]; exact q⟩
  | tup ds =>
    obtain ⟨b, e1, rfl⟩ := inA_seq (.inr rfl) e
    obtain ⟨f1, f2, rfl⟩ := inD_inv e1
    obtain ⟨a, vs, rfl, hq, rs⟩ := Rel.tup_at hr r2
    obtain ⟨g1, g2⟩ := inV_v r1 f1 rs f2
    exact .inr ⟨a, vs, rfl, .inr hq, flat_v r1 f1, g1, by rw [g2]; exact q⟩
  | dk ks vs => exact absurd rfl (nd ks vs)
  | _ => cases neg <;> cases d1 <;> first | cases e | (rename_i z; cases z <;> first | cases e | (rename_i z2; cases z2 <;> cases e))
/-! in of a dict with int and text keys -/
theorem keys_mem {k : DKey} : ∀ {ks : List DKey} {vs : List V}, ks.length = vs.length → ((valV ((ks.map kD).zip vs) (kD k)).isSome = decide (k ∈ ks))
  | [], [], _ => rfl
  | [], _ :: _, l => by cases l
  | _ :: _, [], l => by cases l
  | j :: ks, v :: vs, l => by
    have ih := keys_mem (k := k) (ks := ks) (vs := vs) (by simpa using l)
    unfold valV at ih ⊢
    show ((List.find? (fun kv => decide (kv.1 = kD k)) ((kD j, v) :: (ks.map kD).zip vs)).map (·.2)).isSome = _
    rw [List.find?_cons]
    by_cases e : j = k
    · subst e
      simp
    · have : ¬ kD j = kD k := fun z => e (kD_inj z)
      simp only [this, decide_false]
      rw [ih]
      have : ¬ k = j := fun z => e z.symm
      simp [this]
end
end PL
end
section
set_option Elab.async false
set_option linter.all false
set_option maxHeartbeats 1000000
/-! PL6: comparisons as values and tests, tuples, items, slices, isinstance. -/
namespace PL
open PySem PySem.Spec PyProof.Rows L2
section
variable {fx : Fx} {Z : XW} {w : Wd} {R : Hp} {ρ : Env} {σ : L2.St} {h : Hs} {H : Hp} {Q : VK} {X : Cx}
def rDk (neg : Bool) : R2 := fun x y H Q => ∃ a ov, y = .ref a ∧ DGet H a x ov ∧ Q (.bl (if neg then !ov.isSome else ov.isSome)) H
theorem op_inDk (hu : X.A.units + 1 < cLine) (neg : Bool) : OpR X (compareOp (if neg then .NotIn else .In)) (rDk neg) := by
  intro pins s σ H x y v u Q I rx ry hq
  obtain ⟨a, ov, rfl, g, q⟩ := hq
  obtain rfl : u = Value.ref a := ry
  cases neg with
  | false => exact d_in hu I g rx fun s3 I3 => ⟨.bl ov.isSome, H, I3, rfl, q⟩
  | true => exact d_notIn hu I g rx fun s3 I3 => ⟨.bl (!ov.isSome), H, I3, rfl, q⟩
theorem keyD_v {d : D} {k : DKey} {v : V} (r : Rel fx w d v) (e : keyD d = some k) : v = kV (kD k) := by
  cases d with
  | int i => cases e; cases r; rfl
  | str s => cases e; cases r; rfl
  | _ => cases e
theorem Rel.dk_at (fr : HR fx w R h H) {ks : List DKey} {ds : List D} {v : V} (r : Rel fx w (.dk ks ds) v) : ∃ a vs, v = .ref a ∧ H a = some (.dK ((ks.map kD).zip vs)) ∧ ks.length = ds.length ∧ Rels fx w ds vs := by
  obtain ⟨a, vs, e, q, l, r⟩ := r
  exact ⟨a, vs, e, fr.sF _ _ q, l, r⟩
theorem inA_dk {neg : Bool} {d1 : D} {ks : List DKey} {vs : List D} {k : Bool} (e : cmpP (if neg then .NotIn else .In) d1 (.dk ks vs) = some k) : ∃ j, keyD d1 = some j ∧ k = (if neg then !decide (j ∈ ks) else decide (j ∈ ks)) := by
  have e : (keyD d1).map (fun j => if neg then !decide (j ∈ ks) else decide (j ∈ ks)) = some k := by
    cases neg <;> (cases d1 with
      | str z => cases z with
        | nil => exact e
        | cons c r => cases r <;> exact e
      | _ => exact e)
  cases z : keyD d1 with
  | none => rw [z] at e; cases e
  | some j => rw [z] at e; exact ⟨j, rfl, (Option.some.inj e).symm⟩
def rInF (K : PySem.W.Frag) (neg : Bool) : R2 := fun x y H Q => rInC neg x y H Q ∨ rIn K neg x y H Q ∨ rDk neg x y H Q
theorem op_inF (hu : X.A.units + 1 < cLine) : OpR X (compareOp .In) (rInF X.K false) := (op_inC false).or (op_in_seq.or (op_inDk hu false))
theorem op_notInF (hu : X.A.units + 1 < cLine) : OpR X (compareOp .NotIn) (rInF X.K true) := (op_inC true).or (op_notIn_seq.or (op_inDk hu true))
theorem cmp_inF (neg : Bool) : CmpOk fx (if neg then .NotIn else .In) (rInF fx.K neg) := by
  intro w R h H x y d1 d2 k Q hr r1 r2 e q
  by_cases hd : ∃ ks vs, d2 = .dk ks vs
  · obtain ⟨ks, vs, rfl⟩ := hd
    obtain ⟨j, e1, rfl⟩ := inA_dk e
    obtain ⟨a, us, rfl, hq, l, rs⟩ := Rel.dk_at hr r2
    refine .inr (.inr ⟨a, _, rfl, by rw [keyD_v r1 e1]; exact DGet.k hq, ?_⟩)
    rw [keys_mem (k := j) (by rw [l, rs.length])]
    exact q
  · rcases cmp_in neg w R h H x y d1 d2 k Q hr r1 r2 (fun ks vs z => hd ⟨ks, vs, z⟩) e q with z | z
    · exact .inl z
    · exact .inr (.inl z)
def rCmp (K : PySem.W.Frag) : CmpOp → R2
  | .Eq => rEqA K
  | .NotEq => rNeA K
  | .Lt => rI0 fun i j => .bl (decide (i < j))
  | .LtE => rI0 fun i j => .bl (decide (i ≤ j))
  | .Gt => rI0 fun i j => .bl (decide (j < i))
  | .GtE => rI0 fun i j => .bl (decide (j ≤ i))
  | .Is => rIsA
  | .IsNot => rIsNotA
  | .In => rInF K false
  | .NotIn => rInF K true
theorem op_cmp (hu : X.A.units + 64 < cLine) : ∀ op : CmpOp, OpR X (compareOp op) (rCmp X.K op)
  | .Eq => op_eq.or (op_eqD hu)
  | .NotEq => op_ne.or (op_neD hu)
  | .Lt => op_lt
  | .LtE => op_le
  | .Gt => op_gt
  | .GtE => op_ge
  | .Is => op_isN.or op_isBl
  | .IsNot => op_notN.or op_notBl
  | .In => op_inF (by omega)
  | .NotIn => op_notInF (by omega)
theorem cmp_ok : ∀ op : CmpOp, CmpOk fx op (rCmp fx.K op)
  | .Eq => cmp_eq
  | .NotEq => cmp_ne
  | .Lt => cmp_lt
  | .LtE => cmp_le
  | .Gt => cmp_gt
  | .GtE => cmp_ge
  | .Is => cmp_is
  | .IsNot => cmp_isnot
  | .In => cmp_inF false
  | .NotIn => cmp_inF true
variable {e a b c : Expr} {f g f3 : Env → M D} {pos : Pos}
theorem cmpD_out {op : CmpOp} {d1 d2 : D} {Qd : D → Hs → Prop} {X : Exn → Hs → Prop} (o : Out (cmpD op d1 d2 h) Qd X) : ∃ k, cmpP op d1 d2 = some k ∧ Qd (.bl k) h := by
  obtain ⟨k, e, o⟩ := (Out.bnd.mp o).opt
  exact ⟨k, e, o⟩
theorem je_cmp {op : CmpOp} (zs : Std Z) (hK : X.K = fx.K) (hu : X.A.units + 64 < cLine) (hm : behindInMarks op b = false) (ha : PE X a (TD fx Z f)) (hb : PE X b (TD fx Z g)) :
    PE X (.Compare a [op] [b] pos) (TD fx Z fun ρ => do let x ← f ρ; let y ← g ρ; cmpD op x y) := by
  refine PE.imp (pe_cmpR (op_cmp hu op) ha hb hm) fun σ H Q ⟨w, R, ρ, h, fr, o⟩ => ?_
  refine TD.then zs fr (Out.bnd.mp o) fun w1 x H1 d1 h1 le1 fr1 r1 o1 => ?_
  refine TD.then zs fr1 (zle zs le1 (Out.bnd.mp o1)) fun w2 y H2 d2 h2 le2 fr2 r2 o2 => ?_
  obtain ⟨k, e, o3⟩ := cmpD_out o2
  rw [hK]
  exact cmp_ok op w2 R h2 H2 x y d1 d2 k Q fr2.hr (Rel.mono le2 _ _ r1) r2 e (o3 w2 _ H2 (le1.trans le2) fr2.hr rfl)
theorem out_true {k : Bool} {Qb : Bool → Hs → Prop} {X : Exn → Hs → Prop} (o : Out (truth (.bl k) h) Qb X) : Qb k h := o
theorem jt_cmp {op : CmpOp} (zs : Std Z) (hK : X.K = fx.K) (hu : X.A.units + 64 < cLine) (hm : behindInMarks op b = false) (ha : PE X a (TD fx Z f)) (hb : PE X b (TD fx Z g)) :
    PT X (.Compare a [op] [b] pos) (TB fx Z (tru fun ρ => do let x ← f ρ; let y ← g ρ; cmpD op x y)) := by
  refine PT.imp (pt_cmpR (op_cmp hu op) ha hb hm) fun σ H Q ⟨w, R, ρ, h, fr, o⟩ => ?_
  refine TD.then zs fr (Out.bnd.mp (Out.bnd.mp o)) fun w1 x H1 d1 h1 le1 fr1 r1 o1 => ?_
  refine TD.then zs fr1 (zle zs le1 (Out.bnd.mp o1)) fun w2 y H2 d2 h2 le2 fr2 r2 o2 => ?_
  obtain ⟨k, e, o3⟩ := cmpD_out o2
  rw [hK]
  exact cmp_ok op w2 R h2 H2 x y d1 d2 k _ fr2.hr (Rel.mono le2 _ _ r1) r2 e ⟨k, rfl, (out_true o3) w2 H2 (le1.trans le2) fr2.hr⟩
/-- a < b < c -/
def chn (o p : CmpOp) (f g f3 : Env → M D) : Env → M D := fun ρ => do
  let x ← f ρ
  let y ← g ρ
  let r ← M.opt (cmpP o x y)
  if r then do let z ← f3 ρ; cmpD p y z else pure (.bl false)
theorem je_chain {o p : CmpOp} (zs : Std Z) (hK : X.K = fx.K) (hu : X.A.units + 64 < cLine) (hm : behindInMarks o b = false) (hm2 : behindInMarks p c = false) (hl : lastMarks [o, p] [b, c] = false) (ha : PE X a (TD fx Z f)) (hb : PE X b (TD fx Z g)) (hc : PE X c (TD fx Z f3))
    (key : PE X (.Compare a [o, p] [b, c] pos) (tChain (rCmp X.K o) (rCmp X.K p) (TD fx Z f) (TD fx Z g) (TD fx Z f3))) :
    PE X (.Compare a [o, p] [b, c] pos) (TD fx Z (chn o p f g f3)) := by
  refine PE.imp key fun σ H Q ⟨w, R, ρ, h, fr, oo⟩ => ?_
  refine TD.then zs fr (Out.bnd.mp oo) fun w1 x H1 d1 h1 le1 fr1 r1 o1 => ?_
  refine TD.then zs fr1 (zle zs le1 (Out.bnd.mp o1)) fun w2 y H2 d2 h2 le2 fr2 r2 o2 => ?_
  obtain ⟨k, e, o3⟩ := (Out.bnd.mp o2).opt
  rw [hK]
  refine cmp_ok o w2 R h2 H2 x y d1 d2 k _ fr2.hr (Rel.mono le2 _ _ r1) r2 e ⟨k, rfl, ?_⟩
  cases k with
  | true =>
    refine iteT ?_
    have o3 : Out ((do let z ← f3 ρ; cmpD p d2 z) h2) (PD fx Q w R) (Z w R) := o3
    refine TD.then zs fr2 (zle zs (le1.trans le2) (Out.bnd.mp o3)) fun w3 z H3 d3 h3 le3 fr3 r3 o4 => ?_
    obtain ⟨k, e, o5⟩ := cmpD_out o4
    exact cmp_ok p w3 R h3 H3 y z d2 d3 k Q fr3.hr (Rel.mono le3 _ _ r2) r3 e (o5 w3 _ H3 (le1.trans (le2.trans le3)) fr3.hr rfl)
  | false =>
    refine iteF ?_
    have o3 : PD fx Q w R (.bl false) h2 := o3
    exact o3 w2 _ H2 (le1.trans le2) fr2.hr rfl
theorem jt_chain {o p : CmpOp} (zs : Std Z) (hK : X.K = fx.K)
    (key : PT X (.Compare a [o, p] [b, c] pos) (tTest (tChain (rCmp X.K o) (rCmp X.K p) (TD fx Z f) (TD fx Z g) (TD fx Z f3)))) :
    PT X (.Compare a [o, p] [b, c] pos) (TB fx Z (tru (chn o p f g f3))) := by
  refine PT.imp key fun σ H Q ⟨w, R, ρ, h, fr, oo⟩ => ?_
  refine TD.then zs fr (Out.bnd.mp (Out.bnd.mp oo)) fun w1 x H1 d1 h1 le1 fr1 r1 o1 => ?_
  refine TD.then zs fr1 (zle zs le1 (Out.bnd.mp o1)) fun w2 y H2 d2 h2 le2 fr2 r2 o2 => ?_
  obtain ⟨k, e, o3⟩ := (Out.bnd.mp o2).opt
  rw [hK]
  refine cmp_ok o w2 R h2 H2 x y d1 d2 k _ fr2.hr (Rel.mono le2 _ _ r1) r2 e ⟨k, rfl, ?_⟩
  cases k with
  | true =>
    refine iteT ?_
    have o3 : Out ((do let z ← f3 ρ; cmpD p d2 z) h2) (fun d h1 => Out (truth d h1) (PB fx Q w R) (Z w R)) (Z w R) := o3
    refine TD.then zs fr2 (zle zs (le1.trans le2) (Out.bnd.mp o3)) fun w3 z H3 d3 h3 le3 fr3 r3 o4 => ?_
    obtain ⟨k, e, o5⟩ := cmpD_out o4
    exact cmp_ok p w3 R h3 H3 y z d2 d3 k _ fr3.hr (Rel.mono le3 _ _ r2) r3 e ⟨k, rfl, (out_true o5) w3 H3 (le1.trans (le2.trans le3)) fr3.hr⟩
  | false =>
    refine iteF ⟨false, rfl, ?_⟩
    have o3 : PB fx Q w R false h2 := o3
    exact o3 w2 H2 (le1.trans le2) fr2.hr
/-! ### tests of and, or, .. if .. else -/
theorem jt_and1 {op : BoolOp} (ho : op = .And ∨ op = .Or) (ha : PT X a (TB fx Z (tru f))) : PT X (.BoolOp op [a] pos) (TB fx Z (tru f)) := by
  rcases ho with rfl | rfl
  · exact (pw_and1 ha).pt
  · exact (pw_or1 ha).pt
theorem tru_out {f : Env → M D} {Qb : Bool → Hs → Prop} {X : Exn → Hs → Prop} : Out (tru f ρ h) Qb X ↔ Out (f ρ h) (fun d h1 => Out (truth d h1) Qb X) X := Out.bnd
/-- the truth of a value, of the cells at hand -/
def tv (d : D) (h : Hs) : Option Bool := match d with
  | .ref n => (h.cells n).bind truthC
  | d => truthD d
theorem truth_tv {d : D} {Qb : Bool → Hs → Prop} {X : Exn → Hs → Prop} : Out (truth d h) Qb X ↔ ∃ k, tv d h = some k ∧ Qb k h := by
  have two : ∀ (o : Option Bool), Out (M.opt o h) Qb X ↔ ∃ k, o = some k ∧ Qb k h := fun o => by
    cases o with
    | none => exact ⟨fun z => z.elim, fun ⟨_, z, _⟩ => by cases z⟩
    | some k => exact ⟨fun z => ⟨k, rfl, z⟩, fun ⟨_, z, q⟩ => by cases z; exact q⟩
  cases d with
  | ref n =>
    refine Iff.trans Out.bnd ?_
    show Out (cellAt n h) _ X ↔ ∃ k, (h.cells n).bind truthC = some k ∧ _
    unfold cellAt
    cases h.cells n with
    | none => exact ⟨fun z => z.elim, fun ⟨_, z, _⟩ => by cases z⟩
    | some c => exact two _
  | non => exact two (truthD .non)
  | bl b => exact two (truthD (.bl b))
  | int b => exact two (truthD (.int b))
  | str b => exact two (truthD (.str b))
  | tup b => exact two (truthD (.tup b))
  | lst b => exact two (truthD (.lst b))
  | scr b => exact two (truthD (.scr b))
  | dk b c => exact two (truthD (.dk b c))
  | obj b c e => exact two (truthD (.obj b c e))
/-- and: the first one's truth, then the second's -/
theorem jw_and {rest : List Expr} (zs : Std Z) (ha : PT X a (TB fx Z (tru f))) (hb : PW X (.BoolOp .And (b :: rest) pos) (TB fx Z (tru g))) :
    PW X (.BoolOp .And (a :: b :: rest) pos) (TB fx Z (tru fun ρ => do let x ← f ρ; let t ← truth x; if t then g ρ else pure x)) := by
  refine ⟨fun wh pins s σ H Q I hh => (pw_and ha hb).run wh pins s σ H Q I ?_⟩
  obtain ⟨w, R, ρ, h, fr, oo⟩ := hh
  have o1 := Out.bnd.mp (tru_out.mp oo)
  have o2 : Out (tru f ρ h) (fun t h1 => Out ((if t then tru g ρ else M.ret false) h1) (PB fx Q w R) (Z w R)) (Z w R) := by
    refine tru_out.mpr (o1.imp (fun d h1 q => ?_) fun _ _ x => x)
    obtain ⟨k, e, q⟩ := truth_tv.mp (Out.bnd.mp q)
    refine truth_tv.mpr ⟨k, e, ?_⟩
    cases k with
    | true => exact Out.bnd.mpr q
    | false =>
      obtain ⟨k2, e2, q⟩ := truth_tv.mp (show Out (truth d h1) (PB fx Q w R) (Z w R) from q)
      rw [e] at e2; cases e2
      exact q
  refine TB.then zs fr o2 fun w1 H1 t h1 le1 fr1 q => ?_
  cases t with
  | true => exact iteT ⟨w1, R, ρ, h1, fr1, zle zs le1 (Out.imp q (fun d h1 p => p.le le1) fun _ _ x => x)⟩
  | false =>
    refine iteF ?_
    have q : PB fx Q w R false h1 := q
    exact q w1 H1 le1 fr1.hr
theorem jw_or {rest : List Expr} (zs : Std Z) (ha : PT X a (TB fx Z (tru f))) (hb : PW X (.BoolOp .Or (b :: rest) pos) (TB fx Z (tru g))) :
    PW X (.BoolOp .Or (a :: b :: rest) pos) (TB fx Z (tru fun ρ => do let x ← f ρ; let t ← truth x; if t then pure x else g ρ)) := by
  refine ⟨fun wh pins s σ H Q I hh => (pw_or ha hb).run wh pins s σ H Q I ?_⟩
  obtain ⟨w, R, ρ, h, fr, oo⟩ := hh
  have o1 := Out.bnd.mp (tru_out.mp oo)
  have o2 : Out (tru f ρ h) (fun t h1 => Out ((if t then M.ret true else tru g ρ) h1) (PB fx Q w R) (Z w R)) (Z w R) := by
    refine tru_out.mpr (o1.imp (fun d h1 q => ?_) fun _ _ x => x)
    obtain ⟨k, e, q⟩ := truth_tv.mp (Out.bnd.mp q)
    refine truth_tv.mpr ⟨k, e, ?_⟩
    cases k with
    | false => exact Out.bnd.mpr q
    | true =>
      obtain ⟨k2, e2, q⟩ := truth_tv.mp (show Out (truth d h1) (PB fx Q w R) (Z w R) from q)
      rw [e] at e2; cases e2
      exact q
  refine TB.then zs fr o2 fun w1 H1 t h1 le1 fr1 q => ?_
  cases t with
  | false => exact iteF ⟨w1, R, ρ, h1, fr1, zle zs le1 (Out.imp q (fun d h1 p => p.le le1) fun _ _ x => x)⟩
  | true =>
    refine iteT ?_
    have q : PB fx Q w R true h1 := q
    exact q w1 H1 le1 fr1.hr
end
end PL
end
section
set_option Elab.async false
set_option linter.all false
set_option maxHeartbeats 1000000
/-! PL7: arguments, tuples, items, slices, isinstance, built-in functions. -/
namespace PL
open PySem PySem.Spec PyProof.Rows L2
/-! ### forms of expressions -/
def isStar : Expr → Bool
  | .Starred _ _ => true
  | _ => false
theorem star_ns {e : Expr} {es : List Expr} {env : PySem.Env} (h : isStar e = false) : starEach (e :: es) env = (false, eval e env) :: starEach es env := by
  cases e <;> first | rfl | cases h
def nsup : Expr → Bool
  | .Call (.Name id _) [] [] _ => id != "super"
  | _ => true
theorem abase {o : Expr} {a : Str} {env : PySem.Env} {m : Sem Value} (h : nsup o = true) : attributeBase o a env m = m := by
  unfold attributeBase
  split
  · rename_i id _ _
    have h : (id != ("super" : Str)) = true := h
    rw [if_pos (by rw [h]; rfl)]
  · rfl
def isSlice : Expr → Bool
  | .Slice _ _ _ _ => true
  | _ => false
theorem plain_ix {b : Expr} (h : isSlice b = false) : PlainIx b := fun o i => by
  cases b <;> first | rfl | cases h
theorem plain_bt {pos : Pos} {env : PySem.Env} : ∀ {es : List Expr}, es.all (fun e => !isStar e) = true → (backTo pos (starEach es env)).any (·.1) = false
  | [], _ => rfl
  | e :: es, h => by
    rw [List.all_cons, Bool.and_eq_true] at h
    have h1 : isStar e = false := by simpa using h.1
    rw [star_ns h1]
    have ih := plain_bt (pos := pos) (env := env) h.2
    exact ih
section
variable {fx : Fx} {Z : XW} {w : Wd} {R : Hp} {ρ : Env} {σ : L2.St} {h : Hs} {H : Hp} {Q : VK} {X : Cx}
variable {e a b c : Expr} {es : List Expr} {f g f3 : Env → M D} {fs gs : Env → M (List D)} {pos p p2 : Pos}
/-! ### arguments -/
theorem ja_nil : PA X [] (TL fx Z fun _ => M.ret []) :=
  PA.imp pa_nil fun σ H Q ⟨w, R, ρ, h, fr, o⟩ => by
    have o : PL fx Q w R [] h := o
    exact o w [] H (Wle.refl w) fr.hr rfl
def cns (f : Env → M D) (gs : Env → M (List D)) : Env → M (List D) := fun ρ => do let d ← f ρ; let ds ← gs ρ; pure (d :: ds)
theorem ja_cons (zs : Std Z) (hs : isStar e = false) (ha : PE X e (TD fx Z f)) (hr : PA X es (TL fx Z gs)) : PA X (e :: es) (TL fx Z (cns f gs)) := by
  refine PA.imp (pa_cons ha hr (star_ns hs)) fun σ H Q ⟨w, R, ρ, h, fr, o⟩ => ?_
  refine TD.then zs fr (Out.bnd.mp o) fun w1 x H1 d1 h1 le1 fr1 r1 o1 => ?_
  refine TL.then zs fr1 (zle zs le1 (Out.bnd.mp o1)) fun w2 ys H2 ds h2 le2 fr2 r2 o2 => ?_
  have o2 : PL fx Q w R (d1 :: ds) h2 := o2
  exact o2 w2 _ H2 (le1.trans le2) fr2.hr ⟨x, ys, rfl, Rel.mono le2 _ _ r1, r2⟩

/-! ### tuples -/
theorem je_tup {x1} (zs : Std Z) (hr : PA X es (TL fx Z fs)) : PE X (.Tuple es x1 pos) (TD fx Z fun ρ => do let ds ← fs ρ; if ds.length ≤ line then pure (.tup ds) else M.fail) := by
  refine PE.imp (pe_tup hr) fun σ H Q ⟨w, R, ρ, h, fr, o⟩ => ?_
  refine TL.then zs fr (Out.bnd.mp o) fun w1 vs H1 ds h1 le1 fr1 r1 o1 => ?_
  by_cases hz : ds.length ≤ line
  · rw [if_pos hz] at o1
    have o1 : PD fx Q w R (.tup ds) h1 := o1
    exact ⟨by rw [← r1.length, ← line_eq]; exact hz, fun p hp => (o1.le le1).newTup fr1.hr r1 hp⟩
  · rw [if_neg hz] at o1; exact o1.elim

/-! ### items -/
theorem ixD_eq (n : Nat) (i : Int) : ixN n i = ixD n i := by
  unfold ixN ixD
  split
  · rfl
  · by_cases h : -i ≤ (n : Int)
    · rw [if_pos h, if_pos (by omega)]
    · rw [if_neg h, if_neg (by omega)]
theorem Rels.getD {ds : List D} {vs : List V} {i : Int} {d : D} (r : Rels fx w ds vs) (e : getD ds i = some d) : ∃ v, atI vs i = some v ∧ Rel fx w d v := by
  unfold PL.getD at e
  cases q : ixD ds.length i with
  | none => rw [q] at e; cases e
  | some j =>
    rw [q] at e
    obtain ⟨v, h1, h2⟩ := Rels.get r e
    refine ⟨v, ?_, h2⟩
    unfold atI
    rw [ixD_eq, ← r.length, q]
    exact h1
def rIxA (K : PySem.W.Frag) : R2 := fun x y H Q => rIxL K x y H Q ∨ rIxT K x y H Q ∨ rIxS x y H Q
theorem ix_all : IxR X (rIxA X.K) := by
  intro value slice pins s σ H x y v u Q I rx ry q hs
  rcases q with q | q | q
  · exact ix_list value slice pins s σ H x y v u Q I rx ry q hs
  · exact ix_tup value slice pins s σ H x y v u Q I rx ry q hs
  · exact ix_str value slice pins s σ H x y v u Q I rx ry q hs
theorem ixP_ok (hr : HR fx w R h H) {d1 d2 d : D} {x y : V} (r1 : Rel fx w d1 x) (r2 : Rel fx w d2 y) (e : ixP d1 d2 = some d) (q : PD fx Q w R d h) : rIxA fx.K x y H Q := by
  cases d1 with
  | tup ds =>
    cases d2 with
    | int i =>
      obtain ⟨p, vs, rfl, hq, rs⟩ := Rel.tup_at hr r1
      cases r2
      obtain ⟨v, h1, h2⟩ := Rels.getD rs (show getD ds i = some d from e)
      exact .inr (.inl ⟨p, vs, i, v, rfl, rfl, hq, h1, q.now hr h2⟩)
    | _ => cases e
  | lst ds =>
    cases d2 with
    | int i =>
      obtain ⟨p, vs, rfl, hq, rs⟩ := Rel.lst_at hr r1
      cases r2
      obtain ⟨v, h1, h2⟩ := Rels.getD rs (show getD ds i = some d from e)
      exact .inl ⟨p, vs, i, v, rfl, rfl, .inl (.inl hq), h1, q.now hr h2⟩
    | _ => cases e
  | str s =>
    cases d2 with
    | int i =>
      cases r1; cases r2
      have e : (if s.length ≤ line then (getD s i).map fun c => D.str [c] else none) = some d := e
      by_cases hz : s.length ≤ line
      · rw [if_pos hz] at e
        cases q1 : getD s i with
        | none => rw [q1] at e; cases e
        | some c =>
          rw [q1] at e; cases e
          refine .inr (.inr ⟨_, i, c, rfl, rfl, by rw [st_len, ← line_eq]; exact hz, ?_, q.now hr rfl⟩)
          unfold PL.getD at q1
          unfold atI
          rw [ixD_eq]
          exact q1
      · rw [if_neg hz] at e; cases e
    | _ => cases e
  | _ => cases e
theorem ixM_ok (hr : HR fx w R h H) {d1 d2 : D} {x y : V} {Z' : Exn → Hs → Prop} (r1 : Rel fx w d1 x) (r2 : Rel fx w d2 y) (o : Out (ixM d1 d2 h) (PD fx Q w R) Z') : rIxA fx.K x y H Q := by
  by_cases hd : ∃ n, d1 = .ref n
  · obtain ⟨n, rfl⟩ := hd
    cases d2 with
    | int i =>
      obtain ⟨c, e, o⟩ := (Out.bnd.mp o).cell
      obtain ⟨a, u, rfl, e1, e2, e3, e4, cr⟩ := Rel.cell_at hr r1 e
      cases c with
      | lst ds =>
        obtain ⟨d, e5, o⟩ := o.opt
        obtain ⟨vs, rfl, rs⟩ := cr
        cases r2
        obtain ⟨v, h1, h2⟩ := Rels.getD rs e5
        exact .inl ⟨a, vs, i, v, rfl, rfl, .inl (.inl e4), h1, o.now hr h2⟩
      | dk _ _ => exact o.elim
      | ins _ _ _ => exact o.elim
    | _ => exact o.elim
  · have e : ixM d1 d2 = M.opt (ixP d1 d2) := by
      cases d1 with
      | ref n => exact absurd ⟨n, rfl⟩ hd
      | _ => rfl
    rw [e] at o
    obtain ⟨d, e, o⟩ := o.opt
    exact ixP_ok hr r1 r2 e o
theorem je_ix (zs : Std Z) (hK : X.K = fx.K) (hs : isSlice b = false) (ha : PE X a (TD fx Z f)) (hb : PE X b (TD fx Z g)) : PE X (.Subscript a b pos) (TD fx Z fun ρ => do let x ← f ρ; let y ← g ρ; ixM x y) := by
  refine PE.imp (pe_ix ix_all ha hb (plain_ix hs)) fun σ H Q ⟨w, R, ρ, h, fr, o⟩ => ?_
  refine TD.then zs fr (Out.bnd.mp o) fun w1 x H1 d1 h1 le1 fr1 r1 o1 => ?_
  refine TD.then zs fr1 (zle zs le1 (Out.bnd.mp o1)) fun w2 y H2 d2 h2 le2 fr2 r2 o2 => ?_
  rw [hK]
  exact ixM_ok fr2.hr (Rel.mono le2 _ _ r1) r2 (o2.imp (fun _ _ q => q.le (le1.trans le2)) fun _ _ x => x)

/-! ### slices -/
theorem cutP_eq (n d : Nat) (o : Option Int) : HT.sIx n d o = cutP n d o := by
  cases o <;> rfl
theorem Rels.cut {ds : List D} {vs : List V} (r : Rels fx w ds vs) (lo hi : Option Int) : Rels fx w (cutD ds lo hi) (cutV vs lo hi) := by
  unfold cutD cutV
  rw [cutP_eq, cutP_eq, ← r.length]
  exact Rels.take _ (Rels.drop _ r)
theorem cutS_eq (s : List Nat) (lo hi : Option Int) : cutS (st s) lo hi = st (cutD s lo hi) := by
  unfold cutS cutD st
  rw [cutP_eq, cutP_eq]
  have e : Str.length ⟨s.toArray⟩ = s.length := st_len s
  rw [e]
/-- a slice's end -/
def endE (nul : Bool) (f : Env → M D) : Env → M (Option Int) := fun ρ => endM nul (f ρ)
def TO' (fx : Fx) (Z : XW) (f : Env → M (Option Int)) : TO := fun σ H Q => ∃ w R ρ h, Fr fx w R ρ σ h H ∧ Out (f ρ h) (fun o h' => ∀ w' H', Wle w w' → HR fx w' R h' H' → Q o H') (Z w R)
theorem PO.imp {e : Option Expr} {t t' : TO} (p : PO X e t) (k : ∀ σ H Q, t' σ H Q → t σ H Q) : PO X e t' := ⟨fun pins s σ H Q I h => p.run pins s σ H Q I (k σ H Q h)⟩
theorem jo_none : PO X none (TO' fx Z (endE true fun _ => M.ret .non)) := PO.imp po_none fun σ H Q ⟨w, R, ρ, h, fr, o⟩ => by
  have o : ∀ w' H', Wle w w' → HR fx w' R h H' → Q none H' := o
  exact o w H (Wle.refl w) fr.hr
theorem jo_some (zs : Std Z) (ha : PE X a (TD fx Z f)) : PO X (some a) (TO' fx Z (endE false f)) := PO.imp (po_some ha) fun σ H Q ⟨w, R, ρ, h, fr, o⟩ => by
  refine TD.then zs fr (Out.bnd.mp o) fun w1 x H1 d1 h1 le1 fr1 r1 o1 => ?_
  obtain ⟨v, e, q⟩ := o1.opt
  cases d1 with
  | int i =>
    cases r1
    cases e
    exact ⟨i, rfl, q w1 H1 le1 fr1.hr⟩
  | _ => cases e
def rSlX (K : PySem.W.Frag) : V → Option Int → Option Int → Hp → VK → Prop := fun x lo hi H Q => rSlA K x lo hi H Q ∨ rSlS x lo hi H Q
theorem sl_all : L2.SlR X (rSlX X.K) := sl_tupA.or sl_str
theorem take_all {α : Type} {xs : List α} : List.take xs.length xs = xs := List.take_of_length_le (Nat.le_refl _)
theorem slP_ok (hr : HR fx w R h H) {d1 d : D} {x : V} {lo hi : Option Int} (r1 : Rel fx w d1 x) (e : slP d1 lo hi = some d) (q : PD fx Q w R d h) : rSlX fx.K x lo hi H Q := by
  cases d1 with
  | str s =>
    cases r1
    obtain ⟨hz, rfl⟩ := of_ite (show (if s.length ≤ line then some (D.str (cutD s lo hi)) else none) = some d from e)
    exact .inr ⟨_, rfl, by rw [st_len, ← line_eq]; exact hz, by rw [cutS_eq]; exact q.now hr rfl⟩
  | tup ds =>
    have e : some (D.tup (cutD ds lo hi)) = some d := e
    cases e
    obtain ⟨a, vs, rfl, hq, rs⟩ := Rel.tup_at hr r1
    refine .inl ⟨a, vs, rfl, hq, fun ⟨w1, w2⟩ => ?_, fun _ p hp => q.newTup hr (rs.cut lo hi) hp⟩
    have e : cutD ds lo hi = ds := by
      unfold cutD
      rw [cutP_eq, ← rs.length] at w1 w2
      rw [w1, w2, List.drop_zero, Nat.sub_zero, take_all]
    rw [e] at q
    exact q.now hr r1
  | _ => cases e
def slE (f : Env → M D) (fl fh : Env → M (Option Int)) : Env → M D := fun ρ => do
  let x ← f ρ
  let l ← fl ρ
  let u ← fh ρ
  M.opt (slP x l u)
theorem je_sl {lo hi : Option Expr} {fl fh : Env → M (Option Int)} (zs : Std Z) (hK : X.K = fx.K) (ha : PE X a (TD fx Z f)) (hl : PO X lo (TO' fx Z fl)) (hh : PO X hi (TO' fx Z fh)) : PE X (.Subscript a (.Slice lo hi none p2) pos) (TD fx Z (slE f fl fh)) := by
  refine PE.imp (pe_slice sl_all ha hl hh) fun σ H Q ⟨w, R, ρ, h, fr, o⟩ => ?_
  refine TD.then zs fr (Out.bnd.mp o) fun w1 x H1 d1 h1 le1 fr1 r1 o1 => ?_
  refine ⟨w1, R, ρ, h1, fr1, (zle zs le1 (Out.bnd.mp o1)).imp (fun l h2 o2 w2 H2 le2 hr2 => ?_) fun _ _ z => z⟩
  refine ⟨w2, R, ρ, h2, fr1.to le2 hr2, (zle zs (le1.trans le2) (Out.bnd.mp o2)).imp (fun u h3 o3 w3 H3 le3 hr3 => ?_) fun _ _ z => z⟩
  obtain ⟨d, e, q⟩ := o3.opt
  rw [hK]
  exact slP_ok hr3 (Rel.mono (le2.trans le3) _ _ r1) e (q.le (le1.trans (le2.trans le3)))
end
end PL
end
section
set_option Elab.async false
set_option linter.all false
set_option maxHeartbeats 1000000
/-! PL8: isinstance, built-in functions of values. -/
namespace PL
open PySem PySem.Spec PyProof.Rows L2
/-! ### isinstance -/
def tyN : Ty → String
  | .int => "int" | .bool => "bool" | .str => "str" | .list => "list" | .tuple => "tuple" | .dict => "dict" | .cls _ => ""
def tyV' (fx : Fx) : Ty → V
  | .cls c => .ref (fx.ca c)
  | t => .ty (tyN t)
def tyU (fx : Fx) : Ty → Value
  | .cls c => .ref (fx.ca c)
  | t => .type (tyN t)
theorem tyR {fx : Fx} : ∀ t : Ty, RelV (tyV' fx t) (tyU fx t)
  | .int => rfl | .bool => rfl | .str => rfl | .list => rfl | .tuple => rfl | .dict => rfl | .cls _ => rfl
theorem tyC {fx : Fx} : ∀ t : Ty, ClsV (tyV' fx t) (tyU fx t)
  | .int => .ty _ | .bool => .ty _ | .str => .ty _ | .list => .ty _ | .tuple => .ty _ | .dict => .ty _ | .cls _ => .own _
/-- what is known of the own classes -/
structure CF (fx : Fx) (sup : Nat → Option (List Nat)) : Prop where
  cls : ∀ c l, sup c = some l → Cls fx.K (fx.ca c)
  ha : ∀ c l, sup c = some l → PySem.W.findIn fx.K (.ref (fx.ca c)) "__class__" = some (some (.builtin "object.__class__"))
  hn : PySem.W.specialIn fx.K (.builtin "object.__class__") "__get__" = some (some (.builtin "getset_descriptor.__get__"))
  tk : PySem.W.takesIn fx.K (.builtin "object.__class__") = some true
  mro : ∀ c l, sup c = some l → PySem.W.mroIn fx.K (fx.ca c) (.type "object") = some true
  kcc : ∀ c l d, sup c = some l → (sup d).isSome = true → PySem.W.kitOne fx.K (.ref (fx.ca c)) (.ref (fx.ca d)) = some (decide (d ∈ l))
  ktc : ∀ T d, T ∈ ["NoneType", "bool", "int", "str", "list", "tuple", "dict"] → (sup d).isSome = true → PySem.W.kitOne fx.K (.type T) (.ref (fx.ca d)) = some false
  kct : ∀ c l T, sup c = some l → T ∈ ["bool", "int", "str", "list", "tuple", "dict"] → PySem.W.kitOne fx.K (.ref (fx.ca c)) (.type T) = some false
def tyOk (sup : Nat → Option (List Nat)) : Ty → Bool
  | .cls c => (sup c).isSome
  | _ => true
section
variable {fx : Fx} {Z : XW} {w : Wd} {R : Hp} {ρ : Env} {σ : L2.St} {h : Hs} {H : Hp} {Q : VK} {X : Cx}
variable {e a b c : Expr} {es : List Expr} {f g f3 : Env → M D} {fs gs : Env → M (List D)} {pos p p2 : Pos} {sup : Nat → Option (List Nat)}
theorem kit_tt {T : String} {t : Ty} {k : Bool} (hc : ∀ c, t ≠ .cls c) (e : kitB T (tyN t) = some k) : PySem.W.kitOne fx.K (.type T) (tyU fx t) = some k := by
  cases t with
  | cls c => exact absurd rfl (hc c)
  | _ => exact kit_ty e
def dN : D → String
  | .non => "NoneType" | .bl _ => "bool" | .int _ => "int" | .str _ => "str" | .tup _ => "tuple" | .lst _ => "list" | .dk _ _ => "dict" | _ => ""
/-- the type of a plain value: its answers -/
theorem isi_ty (cf : CF fx sup) (hr : HR fx w R h H) {d : D} {v : V} (r : Rel fx w d v) (nr : ∀ n, d ≠ .ref n) (ns : ∀ n, d ≠ .scr n) (no : ∀ a b c, d ≠ .obj a b c) : TyX fx.K H v (.type (dN d)) ∧ ∀ t k, tyOk sup t = true → isiD sup t d = some k → PySem.W.kitOne fx.K (.type (dN d)) (tyU fx t) = some k := by
  cases d with
  | ref n => exact absurd rfl (nr n)
  | scr n => exact absurd rfl (ns n)
  | obj a b c => exact absurd rfl (no a b c)
  | non =>
    cases r
    refine ⟨.base .non, fun t k ht e => ?_⟩
    dsimp only [dN]
    cases t <;> cases e <;> first | exact kit_tt (fun _ => by intro z; cases z) (by decide +kernel) | exact cf.ktc _ _ (by decide) ht
  | bl x =>
    cases r
    refine ⟨.base (.bl x), fun t k ht e => ?_⟩
    dsimp only [dN]
    cases t <;> cases e <;> first | exact kit_tt (fun _ => by intro z; cases z) (by decide +kernel) | exact cf.ktc _ _ (by decide) ht
  | int x =>
    cases r
    refine ⟨.base (.int x), fun t k ht e => ?_⟩
    dsimp only [dN]
    cases t <;> cases e <;> first | exact kit_tt (fun _ => by intro z; cases z) (by decide +kernel) | exact cf.ktc _ _ (by decide) ht
  | str x =>
    cases r
    refine ⟨.base (.str _), fun t k ht e => ?_⟩
    dsimp only [dN]
    cases t <;> cases e <;> first | exact kit_tt (fun _ => by intro z; cases z) (by decide +kernel) | exact cf.ktc _ _ (by decide) ht
  | tup x =>
    obtain ⟨a, vs, rfl, q, rs⟩ := Rel.tup_at hr r
    refine ⟨?_, fun t k ht e => ?_⟩
    · rcases q with (q | ⟨o, q⟩) | ⟨o, its, n, k1, k2, _⟩
      · exact .base (.tup q)
      · exact .fTuple q
      · exact .kTuple k1 k2
    dsimp only [dN]
    cases t <;> cases e <;> first | exact kit_tt (fun _ => by intro z; cases z) (by decide +kernel) | exact cf.ktc _ _ (by decide) ht
  | lst x =>
    obtain ⟨a, vs, rfl, q, rs⟩ := Rel.lst_at hr r
    refine ⟨.base (.lst q), fun t k ht e => ?_⟩
    dsimp only [dN]
    cases t <;> cases e <;> first | exact kit_tt (fun _ => by intro z; cases z) (by decide +kernel) | exact cf.ktc _ _ (by decide) ht
  | dk x y =>
    obtain ⟨a, vs, rfl, q, _, rs⟩ := Rel.dk_at hr r
    refine ⟨.base (.dK q), fun t k ht e => ?_⟩
    dsimp only [dN]
    cases t <;> cases e <;> first | exact kit_tt (fun _ => by intro z; cases z) (by decide +kernel) | exact cf.ktc _ _ (by decide) ht
theorem isi_own (cf : CF fx sup) {a dx : Addr} {fs : List (Str × V)} {c : Nat} {l : List Nat} (hs : sup c = some l) (q : H a = some (.ins (fx.ca c) dx fs)) : TyX fx.K H (.ref a) (.ref (fx.ca c)) ∧
    ∀ t, tyOk sup t = true → PySem.W.kitOne fx.K (.ref (fx.ca c)) (tyU fx t) = some (match t with | .cls d => decide (d ∈ l) | _ => false) :=
  ⟨.base (.ins q (cf.cls c l hs) (cf.ha c l hs) cf.hn cf.tk (cf.mro c l hs)), fun t ht => by
    cases t with
    | cls d => exact cf.kcc c l d hs ht
    | _ => exact cf.kct c l _ hs (by decide)⟩
/-- isinstance by the value's reading -/
theorem isiM_ty (cf : CF fx sup) (hr : HR fx w R h H) {d : D} {v : V} {ts : List Ty} {Z' : Exn → Hs → Prop} {P : D → Hs → Prop} (ht : ts.all (tyOk sup) = true) (ne : ts ≠ []) (r : Rel fx w d v) (o : Out (isiM sup ts d h) P Z') :
    ∃ (t : Value) (F : Ty → Option Bool) (k : Bool), TyX fx.K H v t ∧ (∀ ty b, ty ∈ ts → F ty = some b → PySem.W.kitOne fx.K t (tyU fx ty) = some b) ∧ isiAny F ts = some k ∧ P (.bl k) h := by
  have hm : ∀ ty, ty ∈ ts → tyOk sup ty = true := fun ty hy => List.all_eq_true.mp ht ty hy
  by_cases hd : ∃ n, d = .ref n
  · obtain ⟨n, rfl⟩ := hd
    obtain ⟨c, e, o⟩ := (Out.bnd.mp o).cell
    obtain ⟨k, e2, o2⟩ := (Out.bnd.mp o).opt
    have o2 : P (.bl k) h := o2
    obtain ⟨a, u, rfl, e1, _, _, e4, cr⟩ := Rel.cell_at hr r e
    cases c with
    | lst ds =>
      obtain ⟨vs, rfl, rs⟩ := cr
      refine ⟨.type "list", _, k, .base (.lst e4), fun ty b hy hb => ?_, e2, o2⟩
      cases ty <;> cases hb <;> first | exact kit_tt (fun _ => by intro z; cases z) (by decide +kernel) | exact cf.ktc _ _ (by decide) (hm _ hy)
    | dk ks ds =>
      obtain ⟨vs, rfl, _, rs⟩ := cr
      refine ⟨.type "dict", _, k, .base (.dK e4), fun ty b hy hb => ?_, e2, o2⟩
      cases ty <;> cases hb <;> first | exact kit_tt (fun _ => by intro z; cases z) (by decide +kernel) | exact cf.ktc _ _ (by decide) (hm _ hy)
    | ins c fs ds =>
      obtain ⟨dx, vs, rfl, _, rs⟩ := cr
      obtain ⟨l, hl⟩ : ∃ l, sup c = some l := by
        cases ts with
        | nil => exact absurd rfl ne
        | cons t ts =>
          cases hs : sup c with
          | some l => exact ⟨l, rfl⟩
          | none =>
            have : isiC sup t (.ins c fs ds) = none := by cases t <;> (show (sup c).map _ = none; rw [hs]; rfl)
            rw [isiAny, this] at e2
            cases e2
      obtain ⟨t1, t2⟩ := isi_own cf hl e4
      refine ⟨_, _, k, t1, fun ty b hy hb => ?_, e2, o2⟩
      have q := t2 ty (hm _ hy)
      rw [q, ← hb]
      cases ty <;> (show some _ = (sup c).map _; rw [hl]; rfl)
  · have nr : ∀ n, d ≠ .ref n := fun n z => hd ⟨n, z⟩
    have e : isiM sup ts d = (do let b ← M.opt (isiAny (fun t => isiD sup t d) ts); pure (.bl b)) := by
      cases d with
      | ref n => exact absurd rfl (nr n)
      | _ => rfl
    rw [e] at o
    obtain ⟨k, e2, o2⟩ := (Out.bnd.mp o).opt
    have o2 : P (.bl k) h := o2
    by_cases hs : ∃ n, d = .scr n
    · obtain ⟨n, rfl⟩ := hs
      cases ts with
      | nil => exact absurd rfl ne
      | cons t ts =>
        have : isiD sup t (.scr n) = none := by cases t <;> rfl
        rw [isiAny, this] at e2
        cases e2
    · by_cases ho : ∃ a b c, d = .obj a b c
      · obtain ⟨c, fs, ds, rfl⟩ := ho
        obtain ⟨l, hl⟩ : ∃ l, sup c = some l := by
          cases ts with
          | nil => exact absurd rfl ne
          | cons t ts =>
            cases hs : sup c with
            | some l => exact ⟨l, rfl⟩
            | none =>
              have : isiD sup t (.obj c fs ds) = none := by cases t <;> (show (sup c).map _ = none; rw [hs]; rfl)
              rw [isiAny, this] at e2
              cases e2
        obtain ⟨a, dx, vs, rfl, q, _, rs⟩ := r
        obtain ⟨t1, t2⟩ := isi_own cf hl (hr.sF _ _ q)
        refine ⟨_, _, k, t1, fun ty b hy hb => ?_, e2, o2⟩
        have q := t2 ty (hm _ hy)
        rw [q, ← hb]
        cases ty <;> (show some _ = (sup c).map _; rw [hl]; rfl)
      · obtain ⟨t1, t2⟩ := isi_ty cf hr r nr (fun n z => hs ⟨n, z⟩) (fun a b c z => ho ⟨a, b, c, z⟩)
        exact ⟨_, _, k, t1, fun ty b hy hb => t2 ty b (hm _ hy) hb, e2, o2⟩
theorem kitAny_of {t : Value} {F : Ty → Option Bool} : ∀ {ts : List Ty} {k : Bool}, (∀ ty b, ty ∈ ts → F ty = some b → PySem.W.kitOne fx.K t (tyU fx ty) = some b) → isiAny F ts = some k → PySem.W.kitAny fx.K t (ts.map (tyU fx)) = some k
  | [], k, _, e => by cases e; rfl
  | ty :: ts, k, hk, e => by
    cases e1 : F ty with
    | none => rw [isiAny, e1] at e; cases e
    | some b1 =>
      cases e2 : isiAny F ts with
      | none => rw [isiAny, e1, e2] at e; cases e
      | some b2 =>
        rw [isiAny, e1, e2] at e
        have e : some (b1 || b2) = some k := e
        cases e
        have ih := kitAny_of (fun ty b hy => hk ty b (List.mem_cons_of_mem _ hy)) e2
        refine kitAny_cons (hk ty b1 List.mem_cons_self e1) (fun z => ?_) fun z => ?_
        · rw [z]; exact ih
        · rw [z]; rfl
theorem tys_paired : ∀ ts : List Ty, Paired ClsV (ts.map (tyV' fx)) (ts.map (tyU fx))
  | [] => .nil
  | t :: ts => .cons (tyC t) (tys_paired ts)
/-- isinstance(a, T) -/
theorem je_isi1 {t : Ty} {x n : Str} (zs : Std Z) (hK : X.K = fx.K) (cf : CF fx sup) (ht : tyOk sup t = true) (hg : Gl X "isinstance") (hm : X.mg "isinstance" = none) (hs : isStar a = false) (ha : PE X a (TD fx Z f)) (hc : PE X (.Name n p2) (tC (tyV' fx t))) :
    PE X (.Call (.Name "isinstance" p) [a, .Name n p2] [] pos) (TD fx Z fun ρ => do let x ← f ρ; isiM sup [t] x) := by
  refine PE.imp (pe_callB call_isi hg hm (by rfl) (pa_cons ha (pa_cons hc pa_nil) (star_ns hs)) (he := star_ns hs)) fun σ H Q ⟨w, R, ρ, h, fr, o⟩ => ?_
  refine TD.then zs fr (Out.bnd.mp o) fun w1 v H1 d1 h1 le1 fr1 r1 o1 => ?_
  obtain ⟨tt, F, k, t1, t2, t3, q⟩ := isiM_ty cf fr1.hr (by rw [List.all_cons, ht]; rfl) (by simp) r1 o1
  obtain ⟨b1, e1, e2⟩ : ∃ b1, F t = some b1 ∧ b1 = k := by
    cases e1 : F t with
    | none => rw [isiAny, e1] at t3; cases t3
    | some b1 =>
      rw [isiAny, e1] at t3
      have t3 : some (b1 || false) = some k := t3
      cases t3
      exact ⟨b1, rfl, by simp⟩
  subst e2
  rw [hK]
  exact ⟨v, tyV' fx t, tt, tyU fx t, b1, rfl, tyC t, t1, t2 t b1 (by simp) e1, (q.le le1).now fr1.hr rfl⟩
/-- isinstance(a, (T1, T2, ..)) -/
theorem je_isiT {ts : List Ty} {x1} (zs : Std Z) (hK : X.K = fx.K) (cf : CF fx sup) (ht : ts.all (tyOk sup) = true) (ne : ts ≠ []) (hl : ts.length ≤ 100) (hg : Gl X "isinstance") (hm : X.mg "isinstance" = none) (hs : isStar a = false) (ha : PE X a (TD fx Z f))
    (hc : PA X es (fun _ H Q => Q (ts.map (tyV' fx)) H)) :
    PE X (.Call (.Name "isinstance" p) [a, .Tuple es x1 p2] [] pos) (TD fx Z fun ρ => do let x ← f ρ; isiM sup ts x) := by
  refine PE.imp (pe_callB call_isiT hg hm (by rfl) (pa_cons ha (pa_cons (pe_tup hc) pa_nil) (star_ns hs)) (he := star_ns hs)) fun σ H Q ⟨w, R, ρ, h, fr, o⟩ => ?_
  refine TD.then zs fr (Out.bnd.mp o) fun w1 v H1 d1 h1 le1 fr1 r1 o1 => ?_
  refine ⟨by rw [List.length_map, sizeLine_eq]; omega, fun tp hp => ?_⟩
  have hr2 := fr1.hr.lay (o := .tup (ts.map (tyV' fx))) hp
  have r2 := Rel.mono (Wd.le_add (o := .tup (ts.map (tyV' fx))) (fr1.hr.none hp).1) _ _ r1
  obtain ⟨tt, F, k, t1, t2, t3, q⟩ := isiM_ty cf hr2 ht ne r2 o1
  have pc := tys_paired (fx := fx) ts
  rw [hK]
  exact ⟨v, tp, _, tt, _, k, rfl, upd_same, pc, t1, kitAny_of t2 t3, ((q.le le1).le (Wd.le_add (fr1.hr.none hp).1)).now hr2 rfl⟩
end
end PL
end
section
set_option Elab.async false
set_option linter.all false
set_option maxHeartbeats 1000000
/-! PL9: built-in functions of one and two values, methods of texts, f-strings. -/
namespace PL
open PySem PySem.Spec PyProof.Rows L2
theorem st_un (s : Str) : st (un s) = s := by
  show (⟨s.cps.toList.toArray⟩ : Str) = s
  rw [Array.toArray_toList]
theorem un_st (s : List Nat) : un (st s) = s := rfl
theorem CallR.or3 {X : Cx} {f : Value} {r r' r'' : List V → Hp → VK → Prop} (h : CallR X f r) (h' : CallR X f r') (h'' : CallR X f r'') : CallR X f (fun xs H Q => r xs H Q ∨ r' xs H Q ∨ r'' xs H Q) := by
  intro pins s σ H xs us Q I rr q
  rcases q with q | q | q
  · exact h pins s σ H xs us Q I rr q
  · exact h' pins s σ H xs us Q I rr q
  · exact h'' pins s σ H xs us Q I rr q
section
variable {fx : Fx} {Z : XW} {w : Wd} {R : Hp} {ρ : Env} {σ : L2.St} {h : Hs} {H : Hp} {Q : VK} {X : Cx}
variable {e a b c : Expr} {es : List Expr} {f g f3 : Env → M D} {fs gs : Env → M (List D)} {pos p p2 apos : Pos}
/-- the rules of a built-in of one value -/
def B1Ok (fx : Fx) (k : B1) (r : List V → Hp → VK → Prop) : Prop := ∀ (w : Wd) (R : Hp) (h : Hs) (H : Hp) (v : V) (d : D) (Q : VK) (Z' : Exn → Hs → Prop), HR fx w R h H → Rel fx w d v → Out (b1M k d h) (PD fx Q w R) Z' → r [v] H Q
theorem b1_pure {k : B1} {d : D} {P : D → Hs → Prop} {Z' : Exn → Hs → Prop} (nr : ∀ n, d ≠ .ref n) (o : Out (b1M k d h) P Z') : ∃ x, b1P k d = some x ∧ P x h := by
  have e : b1M k d = M.opt (b1P k d) := by
    cases d with
    | ref n => exact absurd rfl (nr n)
    | _ => rfl
  rw [e] at o
  exact o.opt
/-- of a cell: what it is -/
theorem b1_cell {k : B1} {n : Nat} {P : D → Hs → Prop} {Z' : Exn → Hs → Prop} (o : Out (b1M k (.ref n) h) P Z') : ∃ c, h.cells n = some c ∧
    ((k = .len ∧ ∃ ds, c = .lst ds ∧ P (.int ds.length) h) ∨ (k = .len ∧ ∃ ks ds, c = .dk ks ds ∧ P (.int ks.length) h) ∨ (k = .tuple ∧ ∃ ds, c = .lst ds ∧ P (.tup ds) h)) := by
  obtain ⟨c, e, o⟩ := (Out.bnd.mp o).cell
  refine ⟨c, e, ?_⟩
  cases k <;> cases c <;> first
    | exact .inl ⟨rfl, _, rfl, o⟩
    | exact .inr (.inl ⟨rfl, _, _, rfl, o⟩)
    | exact .inr (.inr ⟨rfl, _, rfl, o⟩)
    | exact o.elim
theorem zip_len {ks : List DKey} {ds : List D} {vs : List V} (l : ks.length = ds.length) (r : Rels fx w ds vs) : ((ks.map kD).zip vs).length = ks.length := by
  rw [List.length_zip, List.length_map, ← r.length, ← l, Nat.min_self]
def rLen (K : PySem.W.Frag) : List V → Hp → VK → Prop := fun xs H Q => (∃ p ys, xs = [.ref p] ∧ (SqL K H p ys ∨ SqT K H p ys) ∧ Q (.int ys.length) H) ∨ (∃ z, xs = [.str z] ∧ z.length ≤ sizeLine ∧ Q (.int z.length) H) ∨ (∃ a kvs, xs = [V.ref a] ∧ H a = some (.dK kvs) ∧ Q (.int kvs.length) H)
theorem cr_len : CallR X (.builtin "len") (rLen X.K) := CallR.or3 call_len_seq call_len_str call_lenD
theorem b1_len : B1Ok fx .len (rLen fx.K) := by
  intro w R h H v d Q Z' hr r o
  cases d with
  | ref n =>
    obtain ⟨c, e, o⟩ := b1_cell o
    obtain ⟨a, u, rfl, _, _, _, e4, cr⟩ := Rel.cell_at hr r e
    rcases o with ⟨_, ds, rfl, q⟩ | ⟨_, ks, ds, rfl, q⟩ | ⟨z, _⟩
    · obtain ⟨vs, rfl, rs⟩ := cr
      exact .inl ⟨a, vs, rfl, .inl (.inl (.inl e4)), by rw [← rs.length]; exact q.now hr rfl⟩
    · obtain ⟨vs, rfl, l, rs⟩ := cr
      exact .inr (.inr ⟨a, _, rfl, e4, by rw [zip_len l rs]; exact q.now hr rfl⟩)
    · cases z
  | str s =>
    obtain ⟨x, e, q⟩ := b1_pure (fun _ => by intro z; cases z) o
    cases r
    obtain ⟨hz, rfl⟩ := of_ite (show (if s.length ≤ line then some (D.int s.length) else none) = some x from e)
    exact .inr (.inl ⟨_, rfl, by rw [st_len, ← line_eq]; exact hz, by rw [st_len]; exact q.now hr rfl⟩)
  | tup ds =>
    obtain ⟨x, e, q⟩ := b1_pure (fun _ => by intro z; cases z) o
    cases e
    obtain ⟨a, vs, rfl, hq, rs⟩ := Rel.tup_at hr r
    exact .inl ⟨a, vs, rfl, .inr hq, by rw [← rs.length]; exact q.now hr rfl⟩
  | lst ds =>
    obtain ⟨x, e, q⟩ := b1_pure (fun _ => by intro z; cases z) o
    cases e
    obtain ⟨a, vs, rfl, hq, rs⟩ := Rel.lst_at hr r
    exact .inl ⟨a, vs, rfl, .inl (.inl (.inl hq)), by rw [← rs.length]; exact q.now hr rfl⟩
  | scr ns =>
    obtain ⟨x, e, q⟩ := b1_pure (fun _ => by intro z; cases z) o
    cases e
    obtain ⟨a, rfl, hq⟩ := Rel.scr_at hr r
    exact .inl ⟨a, _, rfl, .inl hq, by rw [List.length_map]; exact q.now hr rfl⟩
  | dk ks ds =>
    obtain ⟨x, e, q⟩ := b1_pure (fun _ => by intro z; cases z) o
    cases e
    obtain ⟨a, vs, rfl, hq, l, rs⟩ := Rel.dk_at hr r
    exact .inr (.inr ⟨a, _, rfl, hq, by rw [zip_len l rs]; exact q.now hr rfl⟩)
  | _ => obtain ⟨x, e, q⟩ := b1_pure (fun _ => by intro z; cases z) o; cases e
theorem b1_abs : B1Ok fx .abs (fun xs H Q => ∃ i, xs = [.int i] ∧ Q (.int (if i < 0 then -i else i)) H) := by
  intro w R h H v d Q Z' hr r o
  cases d with
  | ref n => obtain ⟨c, e, o⟩ := b1_cell o; rcases o with ⟨z, _⟩ | ⟨z, _⟩ | ⟨z, _⟩ <;> cases z
  | int i =>
    obtain ⟨x, e, q⟩ := b1_pure (fun _ => by intro z; cases z) o
    cases e; cases r
    refine ⟨i, rfl, ?_⟩
    have : (if i < 0 then -i else i) = (i.natAbs : Int) := by split <;> omega
    rw [this]
    exact q.now hr rfl
  | _ => obtain ⟨x, e, q⟩ := b1_pure (fun _ => by intro z; cases z) o; cases e
def rInt1 : List V → Hp → VK → Prop := fun xs H Q => ((∃ i, xs = [.int i] ∧ Q (.int i) H) ∨ ∃ k, xs = [.bl k] ∧ Q (.int (if k then 1 else 0)) H) ∨ (∃ a n, xs = [.str a] ∧ PySem.intText? a = some n ∧ a.length ≤ 640 ∧ Q (.int n) H)
theorem b1_int : B1Ok fx .int rInt1 := by
  intro w R h H v d Q Z' hr r o
  cases d with
  | ref n => obtain ⟨c, e, o⟩ := b1_cell o; rcases o with ⟨z, _⟩ | ⟨z, _⟩ | ⟨z, _⟩ <;> cases z
  | int i =>
    obtain ⟨x, e, q⟩ := b1_pure (fun _ => by intro z; cases z) o
    cases e; cases r
    exact .inl (.inl ⟨i, rfl, q.now hr rfl⟩)
  | bl i =>
    obtain ⟨x, e, q⟩ := b1_pure (fun _ => by intro z; cases z) o
    cases e; cases r
    exact .inl (.inr ⟨i, rfl, q.now hr rfl⟩)
  | str s =>
    obtain ⟨x, e, q⟩ := b1_pure (fun _ => by intro z; cases z) o
    cases r
    have e : (rdInt s).map D.int = some x := e
    cases z : rdInt s with
    | none => rw [z] at e; cases e
    | some n =>
      rw [z] at e; cases e
      unfold rdInt at z
      by_cases hz : s.length ≤ 640
      · rw [if_pos hz] at z
        exact .inr ⟨_, n, rfl, z, by rw [st_len]; exact hz, q.now hr rfl⟩
      · rw [if_neg hz] at z; cases z
  | _ => obtain ⟨x, e, q⟩ := b1_pure (fun _ => by intro z; cases z) o; cases e
theorem b1_bool : B1Ok fx .bool (fun xs H Q => (∃ i, xs = [.int i] ∧ Q (.bl (i != 0)) H) ∨ ∃ k, xs = [.bl k] ∧ Q (.bl k) H) := by
  intro w R h H v d Q Z' hr r o
  cases d with
  | ref n => obtain ⟨c, e, o⟩ := b1_cell o; rcases o with ⟨z, _⟩ | ⟨z, _⟩ | ⟨z, _⟩ <;> cases z
  | int i =>
    obtain ⟨x, e, q⟩ := b1_pure (fun _ => by intro z; cases z) o
    cases e; cases r
    exact .inl ⟨i, rfl, q.now hr rfl⟩
  | bl i =>
    obtain ⟨x, e, q⟩ := b1_pure (fun _ => by intro z; cases z) o
    cases e; cases r
    exact .inr ⟨i, rfl, q.now hr rfl⟩
  | _ => obtain ⟨x, e, q⟩ := b1_pure (fun _ => by intro z; cases z) o; cases e
def rStr1 : List V → Hp → VK → Prop := fun xs H Q => (∃ i, xs = [.int i] ∧ i.natAbs < big ∧ Q (.str (toString i)) H) ∨ (∃ a, xs = [.str a] ∧ Q (.str a) H)
theorem b1_str : B1Ok fx .str rStr1 := by
  intro w R h H v d Q Z' hr r o
  cases d with
  | ref n => obtain ⟨c, e, o⟩ := b1_cell o; rcases o with ⟨z, _⟩ | ⟨z, _⟩ | ⟨z, _⟩ <;> cases z
  | int i =>
    obtain ⟨x, e, q⟩ := b1_pure (fun _ => by intro z; cases z) o
    cases r
    obtain ⟨hz, rfl⟩ := of_ite (show (if i.natAbs < big then some (D.str (strI i)) else none) = some x from e)
    exact .inl ⟨i, rfl, hz, q.now hr (show V.str _ = V.str (st (strI i)) by rw [strI, st_un])⟩
  | str s =>
    obtain ⟨x, e, q⟩ := b1_pure (fun _ => by intro z; cases z) o
    cases e; cases r
    exact .inr ⟨_, rfl, q.now hr rfl⟩
  | _ => obtain ⟨x, e, q⟩ := b1_pure (fun _ => by intro z; cases z) o; cases e
theorem b1_sum : B1Ok fx .sum (rSum fx.K) := by
  intro w R h H v d Q Z' hr r o
  cases d with
  | ref n => obtain ⟨c, e, o⟩ := b1_cell o; rcases o with ⟨z, _⟩ | ⟨z, _⟩ | ⟨z, _⟩ <;> cases z
  | lst ds =>
    obtain ⟨x, e, q⟩ := b1_pure (fun _ => by intro z; cases z) o
    have e : (intsD ds).map (fun ns => D.int ns.sum) = some x := e
    cases z : intsD ds with
    | none => rw [z] at e; cases e
    | some ns =>
      rw [z] at e; cases e
      obtain ⟨a, vs, rfl, hq, rs⟩ := Rel.lst_at hr r
      have ev := rs.ints z
      subst ev
      exact ⟨a, ns, rfl, .inl (.inl hq), q.now hr rfl⟩
  | _ => obtain ⟨x, e, q⟩ := b1_pure (fun _ => by intro z; cases z) o; cases e
theorem b1_all : B1Ok fx .all (rAll fx.K) := by
  intro w R h H v d Q Z' hr r o
  cases d with
  | ref n => obtain ⟨c, e, o⟩ := b1_cell o; rcases o with ⟨z, _⟩ | ⟨z, _⟩ | ⟨z, _⟩ <;> cases z
  | lst ds =>
    obtain ⟨x, e, q⟩ := b1_pure (fun _ => by intro z; cases z) o
    have e : (blsD ds).map (fun ns => D.bl (ns.all id)) = some x := e
    cases z : blsD ds with
    | none => rw [z] at e; cases e
    | some ns =>
      rw [z] at e; cases e
      obtain ⟨a, vs, rfl, hq, rs⟩ := Rel.lst_at hr r
      have ev := rs.bls z
      subst ev
      exact ⟨a, ns, rfl, .inl (.inl hq), q.now hr rfl⟩
  | _ => obtain ⟨x, e, q⟩ := b1_pure (fun _ => by intro z; cases z) o; cases e
theorem b1_any : B1Ok fx .any (rAny fx.K) := by
  intro w R h H v d Q Z' hr r o
  cases d with
  | ref n => obtain ⟨c, e, o⟩ := b1_cell o; rcases o with ⟨z, _⟩ | ⟨z, _⟩ | ⟨z, _⟩ <;> cases z
  | lst ds =>
    obtain ⟨x, e, q⟩ := b1_pure (fun _ => by intro z; cases z) o
    have e : (blsD ds).map (fun ns => D.bl (ns.any id)) = some x := e
    cases z : blsD ds with
    | none => rw [z] at e; cases e
    | some ns =>
      rw [z] at e; cases e
      obtain ⟨a, vs, rfl, hq, rs⟩ := Rel.lst_at hr r
      have ev := rs.bls z
      subst ev
      exact ⟨a, ns, rfl, .inl (.inl hq), q.now hr rfl⟩
  | _ => obtain ⟨x, e, q⟩ := b1_pure (fun _ => by intro z; cases z) o; cases e
theorem fold_max : ∀ (r : List Int) (i : Int), i ≤ r.foldl (fun m j => if decide (m < j) then j else m) i ∧ (∀ y ∈ r, y ≤ r.foldl (fun m j => if decide (m < j) then j else m) i) ∧ (r.foldl (fun m j => if decide (m < j) then j else m) i = i ∨ r.foldl (fun m j => if decide (m < j) then j else m) i ∈ r)
  | [], i => ⟨Int.le_refl _, fun _ h => (by cases h), .inl rfl⟩
  | x :: r, i => by
    obtain ⟨h1, h2, h3⟩ := fold_max r (if decide (i < x) then x else i)
    rw [List.foldl_cons]
    by_cases hc : i < x
    · simp only [hc, decide_true, if_true] at h1 h2 h3 ⊢
      refine ⟨by omega, fun y hy => ?_, .inr ?_⟩
      · rcases List.mem_cons.mp hy with rfl | hy
        · exact h1
        · exact h2 y hy
      · rcases h3 with h3 | h3
        · rw [h3]; exact List.mem_cons_self
        · exact List.mem_cons_of_mem _ h3
    · simp only [hc, decide_false, Bool.false_eq_true, if_false] at h1 h2 h3 ⊢
      refine ⟨h1, fun y hy => ?_, ?_⟩
      · rcases List.mem_cons.mp hy with rfl | hy
        · omega
        · exact h2 y hy
      · rcases h3 with h3 | h3
        · exact .inl h3
        · exact .inr (List.mem_cons_of_mem _ h3)
theorem fold_min : ∀ (r : List Int) (i : Int), r.foldl (fun m j => if decide (j < m) then j else m) i ≤ i ∧ (∀ y ∈ r, r.foldl (fun m j => if decide (j < m) then j else m) i ≤ y) ∧ (r.foldl (fun m j => if decide (j < m) then j else m) i = i ∨ r.foldl (fun m j => if decide (j < m) then j else m) i ∈ r)
  | [], i => ⟨Int.le_refl _, fun _ h => (by cases h), .inl rfl⟩
  | x :: r, i => by
    obtain ⟨h1, h2, h3⟩ := fold_min r (if decide (x < i) then x else i)
    rw [List.foldl_cons]
    by_cases hc : x < i
    · simp only [hc, decide_true, if_true] at h1 h2 h3 ⊢
      refine ⟨by omega, fun y hy => ?_, .inr ?_⟩
      · rcases List.mem_cons.mp hy with rfl | hy
        · exact h1
        · exact h2 y hy
      · rcases h3 with h3 | h3
        · rw [h3]; exact List.mem_cons_self
        · exact List.mem_cons_of_mem _ h3
    · simp only [hc, decide_false, Bool.false_eq_true, if_false] at h1 h2 h3 ⊢
      refine ⟨h1, fun y hy => ?_, ?_⟩
      · rcases List.mem_cons.mp hy with rfl | hy
        · omega
        · exact h2 y hy
      · rcases h3 with h3 | h3
        · exact .inl h3
        · exact .inr (List.mem_cons_of_mem _ h3)
theorem b1_max : B1Ok fx .max (rMax fx.K) := by
  intro w R h H v d Q Z' hr r o
  cases d with
  | ref n => obtain ⟨c, e, o⟩ := b1_cell o; rcases o with ⟨z, _⟩ | ⟨z, _⟩ | ⟨z, _⟩ <;> cases z
  | lst ds =>
    obtain ⟨x, e, q⟩ := b1_pure (fun _ => by intro z; cases z) o
    have e : ((intsD ds).bind fun ns => (extI (fun a b => decide (b < a)) ns).map D.int) = some x := e
    cases z : intsD ds with
    | none => rw [z] at e; cases e
    | some ns =>
      rw [z] at e
      obtain ⟨a, vs, rfl, hq, rs⟩ := Rel.lst_at hr r
      have ev := rs.ints z
      subst ev
      cases ns with
      | nil => cases e
      | cons n ns =>
        cases e
        obtain ⟨h1, h2, h3⟩ := fold_max ns n
        refine ⟨a, n :: ns, rfl, .inl (.inl hq), by simp, fun m hm hy => ?_⟩
        have e1 : m = ns.foldl (fun m j => if decide (m < j) then j else m) n := by
          refine Int.le_antisymm ?_ (hy _ ?_)
          · rcases List.mem_cons.mp hm with rfl | hm
            · exact h1
            · exact h2 m hm
          · rcases h3 with h3 | h3
            · rw [h3]; exact List.mem_cons_self
            · exact List.mem_cons_of_mem _ h3
        rw [e1]
        exact q.now hr rfl
  | _ => obtain ⟨x, e, q⟩ := b1_pure (fun _ => by intro z; cases z) o; cases e
theorem b1_min : B1Ok fx .min (rMin fx.K) := by
  intro w R h H v d Q Z' hr r o
  cases d with
  | ref n => obtain ⟨c, e, o⟩ := b1_cell o; rcases o with ⟨z, _⟩ | ⟨z, _⟩ | ⟨z, _⟩ <;> cases z
  | lst ds =>
    obtain ⟨x, e, q⟩ := b1_pure (fun _ => by intro z; cases z) o
    have e : ((intsD ds).bind fun ns => (extI (fun a b => decide (a < b)) ns).map D.int) = some x := e
    cases z : intsD ds with
    | none => rw [z] at e; cases e
    | some ns =>
      rw [z] at e
      obtain ⟨a, vs, rfl, hq, rs⟩ := Rel.lst_at hr r
      have ev := rs.ints z
      subst ev
      cases ns with
      | nil => cases e
      | cons n ns =>
        cases e
        obtain ⟨h1, h2, h3⟩ := fold_min ns n
        refine ⟨a, n :: ns, rfl, .inl (.inl hq), by simp, fun m hm hy => ?_⟩
        have e1 : m = ns.foldl (fun m j => if decide (j < m) then j else m) n := by
          refine Int.le_antisymm (hy _ ?_) ?_
          · rcases h3 with h3 | h3
            · rw [h3]; exact List.mem_cons_self
            · exact List.mem_cons_of_mem _ h3
          · rcases List.mem_cons.mp hm with rfl | hm
            · exact h1
            · exact h2 m hm
        rw [e1]
        exact q.now hr rfl
  | _ => obtain ⟨x, e, q⟩ := b1_pure (fun _ => by intro z; cases z) o; cases e
def rTup1 (K : PySem.W.Frag) : List V → Hp → VK → Prop := fun xs H Q => ∃ p ys, xs = [.ref p] ∧ ((SqL K H p ys ∧ ∀ l, H l = none → Q (.ref l) (upd H l (.tup ys))) ∨ (SqT K H p ys ∧ Q (.ref p) H))
theorem b1_tuple : B1Ok fx .tuple (rTup1 fx.K) := by
  intro w R h H v d Q Z' hr r o
  cases d with
  | ref n =>
    obtain ⟨c, e, o⟩ := b1_cell o
    rcases o with ⟨z, _⟩ | ⟨z, _⟩ | ⟨_, ds, rfl, q⟩
    · cases z
    · cases z
    obtain ⟨a, u, rfl, _, _, _, e4, cr⟩ := Rel.cell_at hr r e
    obtain ⟨vs, rfl, rs⟩ := cr
    exact ⟨a, vs, rfl, .inl ⟨.inl (.inl e4), fun l hl => q.newTup hr rs hl⟩⟩
  | lst ds =>
    obtain ⟨x, e, q⟩ := b1_pure (fun _ => by intro z; cases z) o
    cases e
    obtain ⟨a, vs, rfl, hq, rs⟩ := Rel.lst_at hr r
    exact ⟨a, vs, rfl, .inl ⟨.inl (.inl hq), fun l hl => q.newTup hr rs hl⟩⟩
  | tup ds =>
    obtain ⟨x, e, q⟩ := b1_pure (fun _ => by intro z; cases z) o
    cases e
    obtain ⟨a, vs, e1, hq, rs⟩ := Rel.tup_at hr r
    subst e1
    exact ⟨a, vs, rfl, .inr ⟨hq, q.now hr r⟩⟩
  | _ => obtain ⟨x, e, q⟩ := b1_pure (fun _ => by intro z; cases z) o; cases e
/-- a call of a built-in of one value -/
theorem je_b1 {k : B1} {fe : Expr} {r : List V → Hp → VK → Prop} (zs : Std Z) (hs : isStar a = false) (ok : B1Ok fx k r) (call : ∀ {t}, PA X [a] t → PE X (.Call fe [a] [] pos) (tCB r t)) (ha : PE X a (TD fx Z f)) :
    PE X (.Call fe [a] [] pos) (TD fx Z fun ρ => do let x ← f ρ; b1M k x) := by
  refine PE.imp (call (pa_cons ha pa_nil (star_ns hs))) fun σ H Q ⟨w, R, ρ, h, fr, o⟩ => ?_
  refine TD.then zs fr (Out.bnd.mp o) fun w1 v H1 d1 h1 le1 fr1 r1 o1 => ?_
  exact ok w1 R h1 H1 v d1 Q _ fr1.hr r1 (o1.imp (fun _ _ q => q.le le1) fun _ _ x => x)
theorem Inv.nod {X : Cx} {pins : List (Addr × Obj)} {σ : L2.St} {H : Hp} {s : Shared} (hn : X.base.NoDigits) (I : Inv X pins σ H s) : s.heap.NoDigits := by
  obtain ⟨mc, ⟨o, es, ep, h1, h2, h3, h4⟩, h5⟩ := hn
  obtain ⟨b1, b2⟩ := I.ok.bs _ _ h1
  have nx := I.ok.noex _ _ h1
  by_cases hf : cStatics ∈ X.fs
  · obtain ⟨sl, e⟩ := I.base.slot _ _ b1 b2 hf nx
    exact ⟨mc, ⟨_, es, ep, e, h2, h3, h4⟩, h5⟩
  · exact ⟨mc, ⟨o, es, ep, I.base.keep _ _ b1 b2 hf nx, h2, h3, h4⟩, h5⟩
theorem call_str_nod {X : Cx} (hn : X.base.NoDigits) (hc : X.calm = true) : CallR X (.type "str") (fun xs H Q => ∃ i, xs = [.int i] ∧ i.natAbs < big ∧ Q (.str (toString i)) H) := by
  intro pins s σ H xs us Q I r h
  obtain ⟨i, rfl, hz, q⟩ := h
  obtain ⟨u, rfl, t, rfl⟩ := vals1 r
  refine str_of_int_or (I.ok.hd hc) (Inv.nod hn I) (fun _ => ⟨.str _, H, I.tok _, ⟨_, rfl⟩, q⟩) fun hge => absurd hz (Nat.not_lt.mpr (by rw [big_eq]; exact hge))
/-- a built-in that asks no calm -/
def okHot : B1 → Bool
  | .len => true | .abs => true | .int => true | .bool => true | .tuple => true
  | _ => false
def b1N : B1 → Str
  | .len => "len" | .abs => "abs" | .int => "int" | .str => "str" | .sum => "sum" | .all => "all" | .any => "any" | .min => "min" | .max => "max" | .tuple => "tuple" | .bool => "bool"
theorem je_b1k (k : B1) (zs : Std Z) (hK : X.K = fx.K) (hc : okHot k = false → X.calm = true) (hnd : X.base.NoDigits) (hg : Gl X (b1N k)) (hm : X.mg (b1N k) = none) (hs : isStar a = false) (ha : PE X a (TD fx Z f)) :
    PE X (.Call (.Name (b1N k) p) [a] [] pos) (TD fx Z fun ρ => do let x ← f ρ; b1M k x) := by
  cases k with
  | len => exact je_b1 zs hs b1_len (fun t => hK ▸ pe_callB cr_len hg hm (by rfl) t (he := star_ns hs)) ha
  | abs => exact je_b1 zs hs b1_abs (fun t => pe_callB call_abs hg hm (by rfl) t (he := star_ns hs)) ha
  | int => exact je_b1 zs hs b1_int (fun t => pe_callTy (call_int1.or call_int_str) hg hm (by rfl) t (he := star_ns hs)) ha
  | str => exact je_b1 zs hs b1_str (fun t => pe_callTy ((call_str_nod hnd (hc rfl)).or SkE.call_str_str) hg hm (by rfl) t (he := star_ns hs)) ha
  | sum => exact je_b1 zs hs b1_sum (fun t => hK ▸ pe_callB (cr_sum (hc rfl)) hg hm (by rfl) t (he := star_ns hs)) ha
  | all => exact je_b1 zs hs b1_all (fun t => hK ▸ pe_callB (cr_all (hc rfl)) hg hm (by rfl) t (he := star_ns hs)) ha
  | any => exact je_b1 zs hs b1_any (fun t => hK ▸ pe_callB (cr_any (hc rfl)) hg hm (by rfl) t (he := star_ns hs)) ha
  | min => exact je_b1 zs hs b1_min (fun t => hK ▸ pe_callB (cr_min (hc rfl)) hg hm (by rfl) t (he := star_ns hs)) ha
  | max => exact je_b1 zs hs b1_max (fun t => hK ▸ pe_callB (cr_max (hc rfl)) hg hm (by rfl) t (he := star_ns hs)) ha
  | tuple => exact je_b1 zs hs b1_tuple (fun t => hK ▸ pe_callTy call_tuple_of hg hm (by rfl) t (he := star_ns hs)) ha
  | bool => exact je_b1 zs hs b1_bool (fun t => pe_callTy call_bool1 hg hm (by rfl) t (he := star_ns hs)) ha
end
end PL
end
section
set_option Elab.async false
set_option linter.all false
set_option maxHeartbeats 1000000
/-! PL10: built-in functions of two values, methods of texts, f-strings. -/
namespace PL
open PySem PySem.Spec PyProof.Rows L2
section
variable {fx : Fx} {Z : XW} {w : Wd} {R : Hp} {ρ : Env} {σ : L2.St} {h : Hs} {H : Hp} {Q : VK} {X : Cx}
variable {e a b c : Expr} {es : List Expr} {f g f3 : Env → M D} {fs gs : Env → M (List D)} {pos p p2 apos : Pos}
theorem pl1 {pos : Pos} {env : PySem.Env} {b : Expr} (h : isStar b = false) : (backTo pos (starEach [b] env)).any (·.1) = false := by
  rw [star_ns h]; rfl
/-- min, max, divmod -/
def b2N : B2 → Str
  | .min => "min" | .max => "max" | .divmod => "divmod"
def B2Ok (fx : Fx) (k : B2) (r : List V → Hp → VK → Prop) : Prop := ∀ (w : Wd) (R : Hp) (h : Hs) (H : Hp) (v u : V) (d e x : D) (Q : VK), HR fx w R h H → Rel fx w d v → Rel fx w e u → b2P k d e = some x → PD fx Q w R x h → r [v, u] H Q
theorem je_b2 {k : B2} {fe : Expr} {r : List V → Hp → VK → Prop} (zs : Std Z) (hs : isStar a = false) (hs2 : isStar b = false) (ok : B2Ok fx k r) (call : ∀ {t}, PA X [a, b] t → PE X (.Call fe [a, b] [] pos) (tCB r t)) (ha : PE X a (TD fx Z f)) (hb : PE X b (TD fx Z g)) :
    PE X (.Call fe [a, b] [] pos) (TD fx Z fun ρ => do let x ← f ρ; let y ← g ρ; M.opt (b2P k x y)) := by
  refine PE.imp (call (pa_cons ha (pa_cons hb pa_nil (star_ns hs2)) (star_ns hs))) fun σ H Q ⟨w, R, ρ, h, fr, o⟩ => ?_
  refine TD.then zs fr (Out.bnd.mp o) fun w1 v H1 d1 h1 le1 fr1 r1 o1 => ?_
  refine TD.then zs fr1 (zle zs le1 (Out.bnd.mp o1)) fun w2 u H2 d2 h2 le2 fr2 r2 o2 => ?_
  obtain ⟨x, e, q⟩ := o2.opt
  exact ok w2 R h2 H2 v u d1 d2 x Q fr2.hr (Rel.mono le2 _ _ r1) r2 e (q.le (le1.trans le2))
theorem b2_min : B2Ok fx .min (fun xs H Q => ∃ i j, xs = [.int i, .int j] ∧ Q (.int (if j < i then j else i)) H) := by
  intro w R h H v u d e x Q hr r1 r2 e1 q
  cases d <;> cases e <;> cases e1
  cases r1; cases r2
  exact ⟨_, _, rfl, q.now hr rfl⟩
theorem b2_max : B2Ok fx .max (fun xs H Q => ∃ i j, xs = [.int i, .int j] ∧ Q (.int (if j > i then j else i)) H) := by
  intro w R h H v u d e x Q hr r1 r2 e1 q
  cases d <;> cases e <;> cases e1
  cases r1; cases r2
  exact ⟨_, _, rfl, q.now hr rfl⟩
theorem b2_divmod : B2Ok fx .divmod (fun xs H Q => ∃ i j, xs = [.int i, .int j] ∧ CDivP i j ∧ ∀ p, H p = none → Q (.ref p) (upd H p (.tup [.int (i / j), .int (i % j)]))) := by
  intro w R h H v u d e x Q hr r1 r2 e1 q
  cases d with
  | int i =>
    cases e with
    | int j =>
      obtain ⟨⟨h1, h2⟩, rfl⟩ := of_ite (show (if 0 < j ∧ j.natAbs.log2 < 9000 then some (D.tup [.int (i.fdiv j), .int (i.fmod j)]) else none) = some x from e1)
      cases r1; cases r2
      refine ⟨i, j, rfl, ⟨h1, PyProof.noPylong_of_log2 h2⟩, fun p hp => ?_⟩
      rw [Int.fdiv_eq_ediv_of_nonneg i (by omega), Int.fmod_eq_emod_of_nonneg i (by omega)] at q
      exact q.newTup hr (ds := [.int (i / j), .int (i % j)]) (vs := [.int (i / j), .int (i % j)]) (Rels.two rfl rfl) hp
    | _ => cases e1
  | _ => cases e1
theorem je_b2k (k : B2) (zs : Std Z) (hc : X.calm = true) (hg : Gl X (b2N k)) (hm : X.mg (b2N k) = none) (hs : isStar a = false) (hs2 : isStar b = false) (ha : PE X a (TD fx Z f)) (hb : PE X b (TD fx Z g)) :
    PE X (.Call (.Name (b2N k) p) [a, b] [] pos) (TD fx Z fun ρ => do let x ← f ρ; let y ← g ρ; M.opt (b2P k x y)) := by
  cases k with
  | min => exact je_b2 zs hs hs2 b2_min (fun t => pe_callB (call_min2 hc) hg hm (by rfl) t (he := star_ns hs) (hpl := pl1 hs2)) ha hb
  | max => exact je_b2 zs hs hs2 b2_max (fun t => pe_callB (call_max2 hc) hg hm (by rfl) t (he := star_ns hs) (hpl := pl1 hs2)) ha hb
  | divmod => exact je_b2 zs hs hs2 b2_divmod (fun t => pe_callB call_divmodW hg hm (by rfl) t (he := star_ns hs) (hpl := pl1 hs2)) ha hb

/-! ### methods of texts -/
def smE1 (k : SM) (f g : Env → M D) : Env → M D := fun ρ => do let x ← f ρ; if smR k x then do let ds ← cns g (fun _ => M.ret []) ρ; M.opt (smP k x ds) else M.fail
def smE0 (k : SM) (f : Env → M D) : Env → M D := fun ρ => do let x ← f ρ; if smR k x then do let ds ← (M.ret [] : M (List D)); M.opt (smP k x ds) else M.fail
def Sm1Ok (fx : Fx) (k : SM) (r : V → List V → Hp → VK → Prop) : Prop := ∀ (w : Wd) (R : Hp) (h : Hs) (H : Hp) (u : V) (s : List Nat) (e x : D) (Q : VK), HR fx w R h H → Rel fx w e u → smP k (.str s) [e] = some x → PD fx Q w R x h → r (.str (st s)) [u] H Q
theorem je_sm1 {k : SM} {r : V → List V → Hp → VK → Prop} {n : Str} (zs : Std Z) (nb : k ≠ .bits) (ok : Sm1Ok fx k r) (call : ∀ {to te}, PE X a to → PE X b te → PE X (.Call (.Attribute a n apos) [b] [] pos) (tM1 r to te)) (ha : PE X a (TD fx Z f)) (hb : PE X b (TD fx Z g)) :
    PE X (.Call (.Attribute a n apos) [b] [] pos) (TD fx Z (smE1 k f g)) := by
  refine PE.imp (call ha hb) fun σ H Q ⟨w, R, ρ, h, fr, o⟩ => ?_
  refine TD.then zs fr (Out.bnd.mp o) fun w1 v H1 d1 h1 le1 fr1 r1 o1 => ?_
  cases hk : smR k d1 with
  | false => rw [hk] at o1; exact o1.elim
  | true =>
    rw [hk] at o1
    obtain ⟨s, rfl⟩ : ∃ s, d1 = .str s := by
      cases d1 with
      | str s => exact ⟨s, rfl⟩
      | int i => cases k <;> first | exact absurd rfl nb | cases hk
      | _ => cases k <;> cases hk
    cases r1
    refine ⟨⟨_, rfl⟩, ?_⟩
    have o1 : Out ((do let ds ← cns g (fun _ => M.ret []) ρ; M.opt (smP k (.str s) ds)) h1) (PD fx Q w R) (Z w R) := o1
    have o2 := Out.bnd.mp (Out.bnd.mp o1)
    refine TD.then zs fr1 (zle zs le1 o2) fun w2 u H2 d2 h2 le2 fr2 r2 o3 => ?_
    have o3 : Out (M.opt (smP k (.str s) [d2]) h2) (PD fx Q w R) (Z w R) := o3
    obtain ⟨x, e, q⟩ := o3.opt
    exact ok w2 R h2 H2 u s d2 x Q fr2.hr r2 e (q.le (le1.trans le2))
def smN : SM → Str
  | .startswith => "startswith" | .partition => "partition" | .join => "join" | .index => "index" | .bits => "bit_length" | .upper => "upper" | .lindex => "index" | .count => "count"
theorem sm_startswith : Sm1Ok fx .startswith (fun x xs H Q => ∃ a b, x = .str a ∧ xs = [.str b] ∧ Q (.bl (Txt.startswith a b)) H) := by
  intro w R h H u s e x Q hr r e1 q
  cases e with
  | str p => cases r; cases e1; exact ⟨_, _, rfl, rfl, q.now hr rfl⟩
  | _ => cases e1
theorem st_ne {p : List Nat} (h : p.length ≠ 0) : ((st p).length == 0) = false := by
  rw [st_len]
  cases p with
  | nil => exact absurd rfl h
  | cons _ _ => rfl
theorem sm_partition : Sm1Ok fx .partition (fun x xs H Q => ∃ a b, x = .str a ∧ xs = [.str b] ∧ (b.length == 0) = false ∧ a.length ≤ sizeLine ∧
      ∀ p, H p = none → Q (.ref p) (upd H p (.tup [.str (Txt.partition a b).1, .str (Txt.partition a b).2.1, .str (Txt.partition a b).2.2]))) := by
  intro w R h H u s e x Q hr r e1 q
  cases e with
  | str p =>
    cases r
    obtain ⟨⟨h1, h2⟩, rfl⟩ := of_ite (show (if p.length ≠ 0 ∧ s.length ≤ line then some (D.tup [.str (un (Txt.partition (st s) (st p)).1), .str (un (Txt.partition (st s) (st p)).2.1), .str (un (Txt.partition (st s) (st p)).2.2)]) else none) = some x from e1)
    refine ⟨_, _, rfl, rfl, st_ne h1, by rw [st_len, ← line_eq]; exact h2, fun a ha => ?_⟩
    exact q.newTup hr ⟨_, _, rfl, (show V.str _ = V.str _ by rw [st_un]), _, _, rfl, (show V.str _ = V.str _ by rw [st_un]), _, _, rfl, (show V.str _ = V.str _ by rw [st_un]), rfl⟩ ha
  | _ => cases e1
theorem sm_index : Sm1Ok fx .index (fun x xs H Q => ∃ a b i rest, x = .str a ∧ xs = [.str b] ∧ Builtin.Str.occurrences a b 0 a.length 1 = i :: rest ∧ Q (.int (i : Nat)) H) := by
  intro w R h H u s e x Q hr r e1 q
  cases e with
  | str p =>
    cases r
    cases z : Builtin.Str.occurrences (st s) (st p) 0 (st s).length 1 with
    | nil =>
      have e1 : (match Builtin.Str.occurrences (st s) (st p) 0 (st s).length 1 with | i :: _ => some (D.int i) | [] => none) = some x := e1
      rw [z] at e1; cases e1
    | cons i rest =>
      have e1 : (match Builtin.Str.occurrences (st s) (st p) 0 (st s).length 1 with | i :: _ => some (D.int i) | [] => none) = some x := e1
      rw [z] at e1; cases e1
      exact ⟨_, _, i, rest, rfl, rfl, z, q.now hr rfl⟩
  | _ => cases e1
theorem sm_join : Sm1Ok fx .join (fun x xs H Q => ∃ a p, ∃ ys : List Str, x = .str a ∧ xs = [.ref p] ∧ (SqL fx.K H p (ys.map V.str) ∨ SqT fx.K H p (ys.map V.str)) ∧
      (ys.map (·.length)).sum + ys.length * a.length ≤ 16777216 ∧ Q (.str (Txt.join a ys)) H) := by
  intro w R h H u s e x Q hr r e1 q
  cases e with
  | lst ds =>
    have e1 : ((strsD ds).bind fun ss => if (ss.map List.length).sum + ss.length * s.length ≤ line then some (D.str (un (Txt.join (st s) (ss.map st)))) else none) = some x := e1
    cases z : strsD ds with
    | none => rw [z] at e1; cases e1
    | some ss =>
      rw [z] at e1
      obtain ⟨h1, rfl⟩ := of_ite (show (if (ss.map List.length).sum + ss.length * s.length ≤ line then some (D.str (un (Txt.join (st s) (ss.map st)))) else none) = some x from e1)
      obtain ⟨a, vs, rfl, hq, rs⟩ := Rel.lst_at hr r
      have ev := rs.strs z
      subst ev
      have l1 : (ss.map st).map V.str = ss.map fun s => V.str (st s) := by rw [List.map_map]; rfl
      have l2 : ((ss.map st).map (·.length)) = ss.map List.length := by
        rw [List.map_map]
        exact List.map_congr_left fun s _ => st_len s
      refine ⟨_, a, ss.map st, rfl, rfl, .inl (.inl (.inl (by rw [l1]; exact hq))), ?_, q.now hr (show V.str _ = V.str _ by rw [st_un])⟩
      rw [l2, List.length_map, st_len]
      exact h1
  | _ => cases e1
def sm1k : SM → Bool
  | .startswith => true | .partition => true | .join => true | .index => true
  | _ => false
theorem je_sm1k (k : SM) (sk : sm1k k = true) (zs : Std Z) (hK : X.K = fx.K) (hn : nsup a = true) (hs : isStar b = false) (hline : (apos.endLine == pos.line) = true) (ha : PE X a (TD fx Z f)) (hb : PE X b (TD fx Z g)) :
    PE X (.Call (.Attribute a (smN k) apos) [b] [] pos) (TD fx Z (smE1 k f g)) := by
  have h1 : starEach [b] X.env = [(false, eval b X.env)] := star_ns hs
  cases k with
  | startswith => exact je_sm1 zs (by intro z; cases z) sm_startswith (fun x y => pe_m1 F.slot_str_startswith F.type_str_startswith mt_startswith x y h1 (abase hn) hline) ha hb
  | partition => exact je_sm1 zs (by intro z; cases z) sm_partition (fun x y => pe_m1 F.slot_str_partition F.type_str_partition mt_partition x y h1 (abase hn) hline) ha hb
  | join => exact je_sm1 zs (by intro z; cases z) sm_join (fun x y => hK ▸ pe_m1 F.slot_str_join F.type_str_join mt_join x y h1 (abase hn) hline) ha hb
  | index => exact je_sm1 zs (by intro z; cases z) sm_index (fun x y => pe_m1 F.slot_str_index F.type_str_index mt_sindex x y h1 (abase hn) hline) ha hb
  | _ => cases sk
theorem je_bits (zs : Std Z) (hn : nsup a = true) (hline : (apos.endLine == pos.line) = true) (ha : PE X a (TD fx Z f)) : PE X (.Call (.Attribute a "bit_length" apos) [] [] pos) (TD fx Z (smE0 .bits f)) := by
  refine PE.imp (pe_bits ha (abase hn) hline) fun σ H Q ⟨w, R, ρ, h, fr, o⟩ => ?_
  refine TD.then zs fr (Out.bnd.mp o) fun w1 v H1 d1 h1 le1 fr1 r1 o1 => ?_
  cases d1 with
  | int i => cases r1; exact ⟨i, rfl, (PD.le le1 (show PD fx Q w R (.int (Builtin.Int.intBits i : Nat)) h1 from o1)).now fr1.hr rfl⟩
  | _ => exact o1.elim
theorem je_upper (zs : Std Z) (hn : nsup a = true) (hline : (apos.endLine == pos.line) = true) (ha : PE X a (TD fx Z f)) : PE X (.Call (.Attribute a "upper" apos) [] [] pos) (TD fx Z (smE0 .upper f)) := by
  refine PE.imp (pe_upper ha (abase hn) hline) fun σ H Q ⟨w, R, ρ, h, fr, o⟩ => ?_
  refine TD.then zs fr (Out.bnd.mp o) fun w1 v H1 d1 h1 le1 fr1 r1 o1 => ?_
  cases d1 with
  | str s =>
    have o1 : Out (M.opt (if s.length ≤ 5592405 then some (D.str (un (Txt.upper (st s)))) else none) h1) (PD fx Q w R) (Z w R) := o1
    obtain ⟨x, e, q⟩ := o1.opt
    obtain ⟨hz, rfl⟩ := of_ite e
    cases r1
    exact ⟨⟨_, rfl⟩, _, rfl, rfl, by rw [st_len]; exact hz, (q.le le1).now fr1.hr (show V.str _ = V.str _ by rw [st_un])⟩
  | _ => exact o1.elim

/-! ### f-strings -/
/-- {x}, also a number of many digits -/
def tFmB (te : TE) : TE := fun σ H Q => te σ H fun x H1 => (∃ y : Str, x = .str y ∧ y.length ≤ sizeLine ∧ Q (.str y) H1) ∨ ∃ i : Int, x = .int i ∧ i.natAbs < big ∧ Q (.str (toString i)) H1
theorem pe_fmtB {te : TE} (hn : X.base.NoDigits) (hc : X.calm = true) (he : PE X a te) : PE X (.FormattedValue a (-1) none pos) (tFmB te) := by
  refine ⟨fun pins s σ H Q I h => wpAny_FormattedValue_plain (thn (he.run pins s σ H _ I h) fun v s1 ⟨x, H1, I1, r1, q⟩ => ?_)⟩
  rcases q with ⟨y, rfl, hz, q⟩ | ⟨i, rfl, hz, q⟩
  · obtain ⟨t, rfl⟩ := r1
    refine wpAny_formatField_str ⟨.str y, H1, I1, ⟨t, rfl⟩, q⟩ ?_ hz
    exact ⟨.str y, H1, I1.tok _, ⟨_, rfl⟩, q⟩
  · obtain ⟨t, rfl⟩ := r1
    refine formatField_int (I1.ok.hd hc) (Inv.nod hn I1) (fun _ => ⟨.str (toString i), H1, I1.tok _, ⟨_, rfl⟩, q⟩) fun hge => absurd hz (Nat.not_lt.mpr (by rw [big_eq]; exact hge))
theorem je_fm (zs : Std Z) (hn : X.base.NoDigits) (hc : X.calm = true) (ha : PE X a (TD fx Z f)) : PE X (.FormattedValue a (-1) none pos) (TD fx Z fun ρ => do let x ← f ρ; M.opt (fmP x)) := by
  refine PE.imp (pe_fmtB hn hc ha) fun σ H Q ⟨w, R, ρ, h, fr, o⟩ => ?_
  refine TD.then zs fr (Out.bnd.mp o) fun w1 v H1 d1 h1 le1 fr1 r1 o1 => ?_
  obtain ⟨x, e, q⟩ := o1.opt
  cases d1 with
  | str s =>
    cases r1
    obtain ⟨hz, rfl⟩ := of_ite (show (if s.length ≤ line then some (D.str s) else none) = some x from e)
    exact .inl ⟨_, rfl, by rw [st_len, ← line_eq]; exact hz, (q.le le1).now fr1.hr rfl⟩
  | int i =>
    cases r1
    obtain ⟨hz, rfl⟩ := of_ite (show (if i.natAbs < big then some (D.str (strI i)) else none) = some x from e)
    exact .inr ⟨i, rfl, hz, (q.le le1).now fr1.hr (show V.str _ = V.str _ by rw [strI, st_un])⟩
  | _ => cases e
def JJ (fx : Fx) (Z : XW) (X : Cx) (es : List Expr) (F : List Nat → Env → M (List Nat)) : Prop := ∃ ts, PJ X es ts ∧
  ∀ acc σ H Q, (∃ w R ρ h, Fr fx w R ρ σ h H ∧ Out (F acc ρ h) (fun s h' => ∀ w' H', Wle w w' → HR fx w' R h' H' → Q (st s) H') (Z w R)) → tJs ts (st acc) σ H Q
theorem jj_nil : JJ fx Z X [] (fun acc _ => M.ret acc) := ⟨[], .nil, fun acc σ H Q ⟨w, R, ρ, h, fr, o⟩ => by
  have o : ∀ w' H', Wle w w' → HR fx w' R h H' → Q (st acc) H' := o
  exact o w H (Wle.refl w) fr.hr⟩
def jcons (f : Env → M D) (F : List Nat → Env → M (List Nat)) : List Nat → Env → M (List Nat) := fun acc ρ => do
  let x ← f ρ
  match x with
  | .str s => if acc.length + s.length ≤ line then F (acc ++ s) ρ else M.fail
  | _ => M.fail
theorem jj_cons {F : List Nat → Env → M (List Nat)} (zs : Std Z) (ha : PE X a (TD fx Z f)) (hr : JJ fx Z X es F) : JJ fx Z X (a :: es) (jcons f F) := by
  obtain ⟨ts, hp, hq⟩ := hr
  refine ⟨_, .cons ha hp, fun acc σ H Q ⟨w, R, ρ, h, fr, o⟩ => ?_⟩
  refine TD.then zs fr (Out.bnd.mp o) fun w1 v H1 d1 h1 le1 fr1 r1 o1 => ?_
  cases d1 with
  | str s =>
    cases r1
    by_cases hz : acc.length + s.length ≤ line
    · simp only [hz, if_true] at o1
      refine ⟨st s, rfl, by rw [st_app, st_len, List.length_append, ← line_eq]; exact hz, ?_⟩
      rw [st_app]
      exact hq _ _ _ _ ⟨w1, R, ρ, h1, fr1, zle zs le1 (o1.imp (fun s h2 q w' H' le => q w' H' (le1.trans le)) fun _ _ x => x)⟩
    · simp only [hz, if_false] at o1
      exact o1.elim
  | _ => exact o1.elim
theorem je_js {v1 v2 : Expr} {rest : List Expr} {F : List Nat → Env → M (List Nat)} (zs : Std Z) (hj : JJ fx Z X (v1 :: v2 :: rest) F) : PE X (.JoinedStr (v1 :: v2 :: rest) pos) (TD fx Z fun ρ => do let s ← F [] ρ; pure (.str s)) := by
  obtain ⟨ts, hp, hq⟩ := hj
  refine PE.imp (pe_joined hp) fun σ H Q ⟨w, R, ρ, h, fr, o⟩ => ?_
  exact hq [] σ H (fun out H1 => Q (.str out) H1) ⟨w, R, ρ, h, fr, (Out.bnd.mp o).imp (fun s h1 q w' H' le hr => (show PD fx Q w R (.str s) h1 from q) w' _ H' le hr rfl) fun _ _ x => x⟩
end
end PL
end
section
set_option Elab.async false
set_option linter.all false
set_option maxHeartbeats 1000000
/-! PL11: what is walked, targets, comprehensions. -/
namespace PL
open PySem PySem.Spec PyProof.Rows L2
/-- the walk of J gives xs, whatever is done meanwhile -/
def Walk (fx : Fx) (w : Wd) (J : It) (xs : List D) : Prop := ∀ (i : Nat) (w' : Wd) (R : Hp) (h : Hs) (H : Hp), Wle w w' → HR fx w' R h H →
  (∀ d, xs[i]? = some d → J.go i H ∧ ∀ x H', J.yld i H x H' → ∃ w'', Wle w' w'' ∧ HR fx w'' R h H' ∧ Rel fx w'' d x) ∧ (xs.length ≤ i → J.stop i H)
def TW (fx : Fx) (Z : XW) (f : Env → M (List D)) : TI := fun σ H Q => ∃ w R ρ h, Fr fx w R ρ σ h H ∧ Out (f ρ h) (fun xs h' => ∀ w' J H', Wle w w' → HR fx w' R h' H' → Walk fx w' J xs → Q J H') (Z w R)
theorem PI.imp {X : Cx} {tg e : Expr} {t t' : TI} (p : PI X tg e t) (k : ∀ σ H Q, t' σ H Q → t σ H Q) : PI X tg e t' := ⟨fun pins s σ H Q I h => p.run pins s σ H Q I (k σ H Q h)⟩
section
variable {fx : Fx} {Z : XW} {w : Wd} {R : Hp} {ρ : Env} {σ : L2.St} {h : Hs} {H : Hp} {Q : VK} {X : Cx}
variable {e a b c tg : Expr} {es : List Expr} {f g f3 : Env → M D} {fs gs : Env → M (List D)} {pos p p2 apos : Pos}
/-- a list, a tuple, a text -/
def iAny (K : PySem.W.Frag) (tl : TE) : TI := fun σ H R => tl σ H fun x H1 => (∃ a, x = .ref a ∧ (∃ xs, SqL K H1 a xs) ∧ R (Itl K a) H1) ∨ (∃ a, x = .ref a ∧ (∃ xs, SqT K H1 a xs) ∧ R (Itt K a) H1) ∨ (∃ s, x = .str s ∧ R (Its s) H1)
theorem pi_any {l : Expr} {tl : TE} (hl : PE X l tl) : PI X tg l (iAny X.K tl) := by
  refine ⟨fun pins s σ H R I h => ?_⟩
  refine thn (hl.run pins s σ H _ I h) fun v s1 ⟨x, H1, I1, r1, q1⟩ => ?_
  rcases q1 with ⟨a, e, ⟨xs, hq⟩, q⟩ | ⟨a, e, ⟨xs, hq⟩, q⟩ | ⟨z, e, q⟩
  · subst e
    cases r1
    obtain ⟨its, rv, p, hz⟩ := I1.list hq
    exact wpAny_pyIter_list p.isList (pi_one (tk := s1.toks) I1 _ (turn_list a _) ⟨_, Heap.get?_push_size _ rfl, rfl, rfl⟩ q)
  · subst e
    cases r1
    obtain ⟨its, rv, p, hz⟩ := I1.tuple hq
    exact wpAny_pyIter_tuple (show s1.heap.IsTuple a its.toArray from p) (pi_one (tk := s1.toks) I1 _ (turn_tuple a _) ⟨_, Heap.get?_push_size _ rfl, rfl, rfl⟩ q)
  · subst e
    obtain ⟨t, rfl⟩ := r1
    cases ha : z.cps.all (· < 128)
    · exact wpAny_pyIter_wide ha (pi_one (tk := s1.toks) I1 _ (turn_str _ z t "str_iterator" (.inr rfl)) ⟨_, Heap.get?_push_size _ rfl, rfl, rfl⟩ q)
    · exact wpAny_pyIter_ascii ha (pi_one (tk := s1.toks) I1 _ (turn_str _ z t "str_ascii_iterator" (.inl rfl)) ⟨_, Heap.get?_push_size _ rfl, rfl, rfl⟩ q)
theorem rels_get {ds : List D} {vs : List V} {i : Nat} {d : D} (r : Rels fx w ds vs) (e : ds[i]? = some d) : ∃ v, vs[i]? = some v ∧ Rel fx w d v := Rels.get r e
theorem walk_lst {a : Addr} {ds : List D} {vs : List V} (q : SqL fx.K w.F a vs) (r : Rels fx w ds vs) : Walk fx w (Itl fx.K a) ds := by
  intro i w' R h H le hr
  have qH : SqL fx.K H a vs := hr.sF.seq (le.f.seq q)
  refine ⟨fun d e => ?_, fun hl => ⟨vs, qH, by rw [← r.length]; exact hl⟩⟩
  obtain ⟨v, h1, h2⟩ := Rels.get r e
  refine ⟨⟨vs, v, qH, h1⟩, fun x H' ⟨e1, e2⟩ => ?_⟩
  subst e1
  have e3 := e2 vs qH
  rw [h1] at e3; cases e3
  exact ⟨w', Wle.refl _, hr, Rel.mono le _ _ h2⟩
theorem walk_tup {a : Addr} {ds : List D} {vs : List V} (q : SqT fx.K w.F a vs) (r : Rels fx w ds vs) : Walk fx w (Itt fx.K a) ds := by
  intro i w' R h H le hr
  have qH : SqT fx.K H a vs := sqT_mono hr.sF (sqT_mono le.f q)
  refine ⟨fun d e => ?_, fun hl => ⟨vs, qH, by rw [← r.length]; exact hl⟩⟩
  obtain ⟨v, h1, h2⟩ := Rels.get r e
  refine ⟨⟨vs, v, qH, h1⟩, fun x H' ⟨e1, e2⟩ => ?_⟩
  subst e1
  have e3 := e2 vs qH
  rw [h1] at e3; cases e3
  exact ⟨w', Wle.refl _, hr, Rel.mono le _ _ h2⟩
theorem walk_str {s : List Nat} : Walk fx w (Its (st s)) (s.map fun c => .str [c]) := by
  intro i w' R h H le hr
  have sz : (st s).cps.size = s.length := by show s.toArray.size = _; simp
  refine ⟨fun d e => ?_, fun hl => by show (st s).cps.size ≤ i; rw [sz]; simpa using hl⟩
  rw [List.getElem?_map] at e
  cases q : s[i]? with
  | none => rw [q] at e; cases e
  | some c =>
    rw [q] at e; cases e
    obtain ⟨hi, _⟩ := List.getElem?_eq_some_iff.mp q
    refine ⟨by show i < (st s).cps.size; rw [sz]; exact hi, fun x H' ⟨e1, c', e2, e3⟩ => ?_⟩
    subst e1 e3
    have e4 : (st s).cps[i]? = s[i]? := by show s.toArray[i]? = _; simp
    rw [e4, q] at e2; cases e2
    exact ⟨w', Wle.refl _, hr, rfl⟩
theorem walk_rng {a b : Int} : Walk fx w (Itr a (b - a).toNat) (rngD a b) := by
  intro i w' R h H le hr
  have ln : (rngD a b).length = (b - a).toNat := by unfold rngD; simp
  refine ⟨fun d e => ?_, fun hl => by show (b - a).toNat ≤ i; rw [← ln]; exact hl⟩
  obtain ⟨hi, e1⟩ := List.getElem?_eq_some_iff.mp e
  rw [ln] at hi
  refine ⟨hi, fun x H' ⟨e2, e3⟩ => ?_⟩
  subst e2 e3
  refine ⟨w', Wle.refl _, hr, ?_⟩
  have e4 : d = .int (a + i) := by
    unfold rngD at e
    rw [List.getElem?_map, List.getElem?_range hi] at e
    exact (Option.some.inj e).symm
  rw [e4]
  exact rfl
theorem ji_any (zs : Std Z) (hK : X.K = fx.K) (ha : PE X a (TD fx Z f)) : PI X tg a (TW fx Z fun ρ => do let x ← f ρ; M.opt (itD x)) := by
  refine PI.imp (pi_any ha) fun σ H Q ⟨w, R, ρ, h, fr, o⟩ => ?_
  refine TD.then zs fr (Out.bnd.mp o) fun w1 x H1 d1 h1 le1 fr1 r1 o1 => ?_
  obtain ⟨xs, e, q⟩ := o1.opt
  rw [hK]
  cases d1 with
  | lst ds =>
    cases e
    obtain ⟨a, vs, e1, hq, rs⟩ := r1
    exact .inl ⟨a, e1, ⟨vs, fr1.hr.sF.seq (.inl (.inl hq))⟩, q w1 _ H1 le1 fr1.hr (walk_lst (.inl (.inl hq)) rs)⟩
  | tup ds =>
    cases e
    obtain ⟨a, vs, e1, hq, rs⟩ := r1
    exact .inr (.inl ⟨a, e1, ⟨vs, sqT_mono fr1.hr.sF hq⟩, q w1 _ H1 le1 fr1.hr (walk_tup hq rs)⟩)
  | scr ns =>
    cases e
    obtain ⟨a, e1, hq⟩ := r1
    exact .inl ⟨a, e1, ⟨_, fr1.hr.sF.seq hq⟩, q w1 _ H1 le1 fr1.hr (walk_lst hq (rels_ints ns))⟩
  | str s =>
    cases e
    cases r1
    exact .inr (.inr ⟨_, rfl, q w1 _ H1 le1 fr1.hr walk_str⟩)
  | _ => cases e
def rg1E (f : Env → M D) : Env → M (List D) := fun ρ => do
  let x ← f ρ
  match x with
  | .int b => if rngOk b then pure (rngD 0 b) else M.fail
  | _ => M.fail
def rg2E (f g : Env → M D) : Env → M (List D) := fun ρ => do
  let x ← f ρ
  let y ← g ρ
  match x, y with
  | .int a, .int b => if rngOk a ∧ rngOk b then pure (rngD a b) else M.fail
  | _, _ => M.fail
theorem rngOk_iff {a : Int} (h : rngOk a = true) : -(2 ^ 62) ≤ a ∧ a < 2 ^ 62 := of_decide_eq_true h
theorem ji_rg1 (zs : Std Z) (hg : Gl X "range") (hm : X.mg "range" = none) (hs : isStar a = false) (ha : PE X a (TD fx Z f)) : PI X tg (.Call (.Name "range" p) [a] [] pos) (TW fx Z (rg1E f)) := by
  refine PI.imp (pi_range1 hg hm (pa_cons ha pa_nil (star_ns hs)) (star_ns hs)) fun σ H Q ⟨w, R, ρ, h, fr, o⟩ => ?_
  refine TD.then zs fr (Out.bnd.mp o) fun w1 x H1 d1 h1 le1 fr1 r1 o1 => ?_
  cases d1 with
  | int b =>
    cases r1
    by_cases hz : rngOk b = true
    · simp only [hz, if_true] at o1
      obtain ⟨z1, z2⟩ := rngOk_iff hz
      refine ⟨b, rfl, z1, z2, ?_⟩
      have q : ∀ w' J H', Wle w w' → HR fx w' R h1 H' → Walk fx w' J (rngD 0 b) → Q J H' := o1
      have wk := walk_rng (fx := fx) (w := w1) (a := 0) (b := b)
      rw [Int.sub_zero] at wk
      exact q w1 _ H1 le1 fr1.hr wk
    · simp only [hz, if_false] at o1; exact o1.elim
  | _ => exact o1.elim
theorem ji_rg2 (zs : Std Z) (hg : Gl X "range") (hm : X.mg "range" = none) (hs : isStar a = false) (hs2 : isStar b = false) (ha : PE X a (TD fx Z f)) (hb : PE X b (TD fx Z g)) : PI X tg (.Call (.Name "range" p) [a, b] [] pos) (TW fx Z (rg2E f g)) := by
  refine PI.imp (pi_range2 hg hm (pa_cons ha (pa_cons hb pa_nil (star_ns hs2)) (star_ns hs)) (by rw [star_ns hs, star_ns hs2]; rfl) (by rw [star_ns hs2]; rfl)) fun σ H Q ⟨w, R, ρ, h, fr, o⟩ => ?_
  refine TD.then zs fr (Out.bnd.mp o) fun w1 x H1 d1 h1 le1 fr1 r1 o1 => ?_
  refine TD.then zs fr1 (zle zs le1 (Out.bnd.mp o1)) fun w2 y H2 d2 h2 le2 fr2 r2 o2 => ?_
  cases d1 with
  | int i =>
    cases d2 with
    | int j =>
      cases r1; cases r2
      by_cases hz : rngOk i ∧ rngOk j
      · simp only [hz, and_self, if_true] at o2
        obtain ⟨z1, z2⟩ := rngOk_iff hz.1
        obtain ⟨z3, z4⟩ := rngOk_iff hz.2
        refine ⟨i, j, rfl, ⟨z1, z2, z3, z4⟩, ?_⟩
        have q : ∀ w' J H', Wle w w' → HR fx w' R h2 H' → Walk fx w' J (rngD i j) → Q J H' := o2
        exact q w2 _ H2 (le1.trans le2) fr2.hr walk_rng
      · simp only [hz, if_false] at o2; exact o2.elim
    | _ => exact o2.elim
  | _ => cases d2 <;> exact o2.elim

/-! ### targets -/
mutual
/-- the slots of a target -/
def tgS : Tg → List Nat
  | .n i => [i]
  | .t ts => tgsS ts
def tgsS : List Tg → List Nat
  | [] => []
  | t :: ts => tgS t ++ tgsS ts
end
theorem SR.set {i : Nat} {d : D} {v : V} (s : SR fx w R ρ σ) (r : Rel fx w d v) : SR fx w R (ρ.set i (.val d)) (σ.set i (some v)) := by
  refine ⟨by rw [List.length_set, List.length_set]; exact s.len, fun j x e => ?_⟩
  by_cases hj : i = j
  · subst hj
    by_cases hl : i < ρ.length
    · rw [List.getElem?_set_self hl] at e; cases e
      rw [List.getElem?_set_self (by rw [← s.len]; exact hl)]
      exact ⟨v, rfl, r⟩
    · rw [List.getElem?_eq_none (by simpa using hl)] at e; cases e
  · rw [List.getElem?_set_ne hj] at e ⊢
    exact s.at_ j x e
theorem SR.wipe (s : SR fx w R ρ σ) : ∀ vs : List Nat, SR fx w R (wipeE ρ vs) (wipe σ vs)
  | [] => s
  | v :: vs => by
    have ih := SR.wipe s vs
    refine ⟨by unfold wipeE L2.wipe; rw [List.length_set, List.length_set]; exact ih.len, fun j x e => ?_⟩
    unfold wipeE at e
    unfold L2.wipe
    by_cases hj : v = j
    · subst hj
      by_cases hl : v < (wipeE ρ vs).length
      · rw [List.getElem?_set_self hl] at e; cases e; trivial
      · rw [List.getElem?_eq_none (by simpa using hl)] at e; cases e
    · rw [List.getElem?_set_ne hj] at e ⊢
      exact ih.at_ j x e
/-- what is owned is not touched -/
def OwnK (ρ : Env) (σ : L2.St) (ρ' : Env) (σ' : L2.St) : Prop := ∀ (i : Nat) (c : HC), ρ'[i]? = some (Sl.own c) → ρ[i]? = some (Sl.own c) ∧ σ'[i]? = σ[i]?
theorem OwnK.refl : OwnK ρ σ ρ σ := fun _ _ h => ⟨h, rfl⟩
theorem OwnK.trans {ρ' ρ'' : Env} {σ' σ'' : L2.St} (a : OwnK ρ σ ρ' σ') (b : OwnK ρ' σ' ρ'' σ'') : OwnK ρ σ ρ'' σ'' := fun i c h => by
  obtain ⟨h1, h2⟩ := b i c h
  obtain ⟨h3, h4⟩ := a i c h1
  exact ⟨h3, h2.trans h4⟩
theorem OwnK.set {i : Nat} {d : D} {v : V} : OwnK ρ σ (ρ.set i (.val d)) (σ.set i (some v)) := fun j c e => by
  by_cases hj : i = j
  · subst hj
    by_cases hl : i < ρ.length
    · rw [List.getElem?_set_self hl] at e; cases e
    · rw [List.getElem?_eq_none (by simpa using hl)] at e; cases e
  · rw [List.getElem?_set_ne hj] at e ⊢
    exact ⟨e, rfl⟩
/-- a target's store: no heap is changed -/
def GOk (fx : Fx) (t : Tg) (g : TG) : Prop := ∀ (w : Wd) (R : Hp) (h : Hs) (H : Hp) (ρ : Env) (σ : L2.St) (d : D) (x : V) (ρ' : Env) (Q : L2.St → Hp → Prop), HR fx w R h H → SR fx w R ρ σ → Rel fx w d x → setTg t d ρ = some ρ' →
  (∀ σ', SR fx w R ρ' σ' → (∀ vs : List Nat, (∀ i ∈ tgS t, i ∈ vs) → wipe σ' vs = wipe σ vs) → OwnK ρ σ ρ' σ' → Q σ' H) → g x σ H Q
def GsOk (fx : Fx) (ts : List Tg) (g : TGs) : Prop := ∀ (w : Wd) (R : Hp) (h : Hs) (H : Hp) (ρ : Env) (σ : L2.St) (ds : List D) (xs : List V) (ρ' : Env) (Q : L2.St → Hp → Prop), HR fx w R h H → SR fx w R ρ σ → Rels fx w ds xs → setTgs ts ds ρ = some ρ' →
  (∀ σ', SR fx w R ρ' σ' → (∀ vs : List Nat, (∀ i ∈ tgsS ts, i ∈ vs) → wipe σ' vs = wipe σ vs) → OwnK ρ σ ρ' σ' → Q σ' H) → g xs σ H Q
theorem wipe_set {σ : L2.St} {i : Nat} {v : Option V} : ∀ {vs : List Nat}, i ∈ vs → wipe (σ.set i v) vs = wipe σ vs
  | [], h => by cases h
  | u :: vs, h => by
    unfold L2.wipe
    by_cases hi : i ∈ vs
    · rw [wipe_set hi]
    · have e : i = u := by
        rcases List.mem_cons.mp h with h | h
        · exact h
        · exact absurd h hi
      subst e
      have key : ∀ (us : List Nat), i ∉ us → wipe (σ.set i v) us = (wipe σ us).set i v := by
        intro us
        induction us with
        | nil => intro _; rfl
        | cons z us ih =>
          intro hz
          have hz1 : i ≠ z := fun e => hz (e ▸ List.mem_cons_self)
          have hz2 : i ∉ us := fun e => hz (List.mem_cons_of_mem _ e)
          show (wipe (σ.set i v) us).set z none = ((wipe σ us).set z none).set i v
          rw [ih hz2, List.set_comm _ _ hz1]
      rw [key vs hi, List.set_set]
theorem gok_n {i : Nat} : GOk fx (.n i) (gName i) := by
  intro w R h H ρ σ d x ρ' Q hr sr r e k
  have e : (if i < ρ.length then some (ρ.set i (.val d)) else none) = some ρ' := e
  obtain ⟨_, rfl⟩ := of_ite e
  exact k _ (sr.set r) (fun vs hv => wipe_set (hv i (by simp [tgS]))) OwnK.set
theorem gsok_nil : GsOk fx [] gNil := by
  intro w R h H ρ σ ds xs ρ' Q hr sr r e k
  cases ds with
  | nil => cases r; cases e; exact ⟨rfl, k σ sr (fun _ _ => rfl) OwnK.refl⟩
  | cons _ _ => cases e
theorem gsok_cons {t : Tg} {ts : List Tg} {g : TG} {gs : TGs} (h1 : GOk fx t g) (h2 : GsOk fx ts gs) : GsOk fx (t :: ts) (gCons g gs) := by
  intro w R h H ρ σ ds xs ρ' Q hr sr r e k
  cases ds with
  | nil => cases e
  | cons d ds =>
    obtain ⟨v, u, rfl, r1, r2⟩ := r
    have e : (setTg t d ρ).bind (fun ρ' => setTgs ts ds ρ') = some ρ' := e
    cases e1 : setTg t d ρ with
    | none => rw [e1] at e; cases e
    | some ρ1 =>
      rw [e1] at e
      refine ⟨v, u, rfl, h1 w R h H ρ σ d v ρ1 _ hr sr r1 e1 fun σ1 sr1 w1 k1 => ?_⟩
      refine h2 w R h H ρ1 σ1 ds u ρ' Q hr sr1 r2 e fun σ2 sr2 w2 k2 => k σ2 sr2 (fun vs hv => ?_) (k1.trans k2)
      rw [w2 vs fun i hi => hv i (by simp [tgsS, hi]), w1 vs fun i hi => hv i (by simp [tgsS, hi])]
theorem setTgs_len : ∀ {ts : List Tg} {ds : List D} {ρ ρ' : Env}, setTgs ts ds ρ = some ρ' → ds.length = ts.length
  | [], [], _, _, _ => rfl
  | [], _ :: _, _, _, e => by cases e
  | _ :: _, [], _, _, e => by cases e
  | t :: ts, d :: ds, ρ, ρ', e => by
    have e : (setTg t d ρ).bind (fun ρ' => setTgs ts ds ρ') = some ρ' := e
    cases e1 : setTg t d ρ with
    | none => rw [e1] at e; cases e
    | some ρ1 =>
      rw [e1] at e
      rw [List.length_cons, List.length_cons, setTgs_len (ts := ts) (ds := ds) e]
theorem gok_t {ts : List Tg} {gs : TGs} (h : GsOk fx ts gs) : GOk fx (.t ts) (gTup fx.K ts.length gs) := by
  intro w R h0 H ρ σ d x ρ' Q hr sr r e k
  cases d with
  | tup ds =>
    have e : setTgs ts ds ρ = some ρ' := e
    obtain ⟨a, vs, rfl, hq, rs⟩ := Rel.tup_at hr r
    exact ⟨a, vs, rfl, hq, by rw [← rs.length, setTgs_len e], h w R h0 H ρ σ ds vs ρ' Q hr sr rs e k⟩
  | _ => cases e

/-! ### comprehensions -/
theorem upd_upd {a : Addr} {o o' : HO} : upd (upd R a o) a o' = upd R a o' := by
  funext b
  by_cases h : b = a
  · subst h; rw [upd_same, upd_same]
  · rw [upd_ne h, upd_ne h, upd_ne h]
def ZF : XW := fun _ _ _ _ => False
theorem zf_std : Std ZF := fun _ _ _ _ _ _ h => h
theorem PTs.imp {X : Cx} {e : List Expr} {t t' : TT} (p : PTs X e t) (k : ∀ σ H Q, t' σ H Q → t σ H Q) : PTs X e t' := ⟨fun pins s σ H Q I h => p.run pins s σ H Q I (k σ H Q h)⟩
theorem jts_nil : PTs X [] (TB fx ZF (tru fun _ => M.ret (.bl true))) := PTs.imp pts_nil fun σ H Q ⟨w, R, ρ, h, fr, o⟩ => by
  have o : PB fx Q w R true h := o
  exact o w H (Wle.refl _) fr.hr
theorem tot_out {α : Type} {m : M α} {P : α → Hs → Prop} {X : Exn → Hs → Prop} (o : Out (M.tot m h) P X) : Out (m h) P fun _ _ => False := by
  unfold M.tot at o
  cases e : m h with
  | ok a h1 => rw [e] at o; exact o
  | exc _ _ => rw [e] at o; exact o.elim
  | bad => rw [e] at o; exact o.elim
def compE (own : List Nat) (t : Tg) (fi : Env → M (List D)) (fc fe : Env → M D) : Env → M (List D) := fun ρ => do
  let xs ← fi ρ
  compL (fun x => M.tot (turnC own t fc fe ρ x)) [] xs
/-- the reading of a comprehension -/
theorem lc_read {t : Tg} {g : TG} {own : List Nat} {fi : Env → M (List D)} {fc fe : Env → M D} (hg : GOk fx t g) (ho : ∀ i ∈ tgS t, i ∈ own) {σ : L2.St} {H : Hp} {Q : VK} (hh : TC fx Z (compE own t fi fc fe) σ H Q) :
    tLc (TW fx Z fi) g (TB fx ZF (tru fc)) (TD fx ZF fe) own σ H Q := by
  obtain ⟨w, R, ρ, h, fr, o⟩ := hh
  refine ⟨w, R, ρ, h, fr, (Out.bnd.mp o).imp (fun xs h1 o1 w1 J H1 le1 hr1 wk D hD => ?_) fun _ _ z => z⟩
  have fr1 := fr.to le1 hr1
  have hRD := (hr1.none hD).2.1
  refine ⟨fun i m H' => m = xs.length - i ∧ i ≤ xs.length ∧ ∃ w' h' acc vs, Wle w1 w' ∧ HR fx w' (upd R D (.lst vs)) h' H' ∧ Rels fx w' acc vs ∧ Out (compL (fun x => M.tot (turnC own t fc fe ρ x)) acc (xs.drop i) h') (PC fx Q w R) (Z w R), ⟨xs.length, by simp, Nat.zero_le _, w1, h1, [], [], Wle.refl _, hr1.layR hD, rfl, o1⟩, ?_⟩
  rintro i m H' ⟨rfl, hi, w', h', acc, vs, le', hr', ra, o'⟩
  obtain ⟨wk1, wk2⟩ := wk i w' _ h' H' le' hr'
  by_cases hlt : i < xs.length
  · have hx : xs[i]? = some xs[i] := List.getElem?_eq_getElem hlt
    obtain ⟨g1, g2⟩ := wk1 _ hx
    rw [List.drop_eq_getElem_cons hlt] at o'
    refine .inr ⟨g1, fun H2 => ∃ w' h' acc vs, Wle w1 w' ∧ HR fx w' (upd R D (.lst vs)) h' H2 ∧ Rels fx w' acc vs ∧ Out (compL (fun x => M.tot (turnC own t fc fe ρ x)) acc (xs.drop (i + 1)) h') (PC fx Q w R) (Z w R),
      fun H2 p => ⟨xs.length - (i + 1), by omega, rfl, hlt, p⟩, fun x H2 y => ?_⟩
    obtain ⟨w2, le2, hr2, r2⟩ := g2 x H2 y
    have o2 := tot_out (Out.bnd.mp (show Out ((do let y ← M.tot (turnC own t fc fe ρ xs[i]); match y with | some d => if acc.length < line then compL (fun x => M.tot (turnC own t fc fe ρ x)) (acc ++ [d]) (xs.drop (i + 1)) else M.fail | none => compL (fun x => M.tot (turnC own t fc fe ρ x)) acc (xs.drop (i + 1))) h') (PC fx Q w R) (Z w R) from o'))
    obtain ⟨ρ', es, o3⟩ := (Out.bnd.mp (show Out ((do let ρ' ← M.opt (setTg t xs[i] (wipeE ρ own)); let t ← fc ρ'; let b ← truth t; if b then do let y ← fe ρ'; pure (some y) else pure none) h') _ _ from o2)).opt
    have sr2 : SR fx w2 (upd R D (.lst vs)) ρ σ := by
      have s0 := fr1.sr.mono (le'.trans le2)
      refine ⟨s0.len, fun j s e => ?_⟩
      have q := s0.at_ j s e
      cases s with
      | non => trivial
      | val d => exact q
      | fn => exact q
      | exn _ => exact q
      | own c =>
        obtain ⟨a, u, e1, e2, e3⟩ := q
        exact ⟨a, u, e1, by rw [upd_ne (ne_of_none e2 hRD)]; exact e2, e3⟩
    refine hg w2 _ h' H2 _ _ xs[i] x ρ' _ hr2 (sr2.wipe own) r2 es fun σ2 s2 w2' _ => ⟨?_, ?_⟩
    · rw [w2' own ho]
      have key : ∀ (us : List Nat), (∀ j ∈ own, j ∈ us ∨ True) → wipe (wipe σ own) own = wipe σ own := fun _ _ => by
        have nn : ∀ (vs : List Nat) (τ : L2.St) (j : Nat), j ∈ vs → (wipe τ vs).set j none = wipe τ vs := by
          intro vs
          induction vs with
          | nil => intro τ j hj; cases hj
          | cons v vs ih =>
            intro τ j hj
            show ((wipe τ vs).set v none).set j none = (wipe τ vs).set v none
            by_cases hjv : j = v
            · subst hjv; rw [List.set_set]
            · have hj2 : j ∈ vs := by
                rcases List.mem_cons.mp hj with z | z
                · exact absurd z hjv
                · exact z
              rw [List.set_comm _ _ (fun z => hjv z.symm), ih τ j hj2]
        have mm : ∀ (us vs : List Nat) (τ : L2.St), (∀ j ∈ us, j ∈ vs) → wipe (wipe τ vs) us = wipe τ vs := by
          intro us
          induction us with
          | nil => intro vs τ _; rfl
          | cons v us ih =>
            intro vs τ hj
            show (wipe (wipe τ vs) us).set v none = wipe τ vs
            rw [ih vs τ fun j hj' => hj j (List.mem_cons_of_mem _ hj')]
            exact nn vs τ v (hj v List.mem_cons_self)
        exact mm own own σ fun _ hj => hj
      exact key [] fun _ _ => .inr trivial
    · have le3 : Wle w1 w2 := le'.trans le2
      refine ⟨w2, _, ρ', h', ⟨hr2, s2⟩, ?_⟩
      have o4 : Out (tru fc ρ' h') (fun b h2 => Out ((if b then do let y ← fe ρ'; pure (some y) else pure none) h2) (fun y h3 => Out ((match y with | some d => if acc.length < line then compL (fun x => M.tot (turnC own t fc fe ρ x)) (acc ++ [d]) (xs.drop (i + 1)) else M.fail | none => compL (fun x => M.tot (turnC own t fc fe ρ x)) acc (xs.drop (i + 1))) h3) (PC fx Q w R) (Z w R)) fun _ _ => False) fun _ _ => False := by
        refine tru_out.mpr ((Out.bnd.mp o3).imp (fun d h2 q => ?_) fun _ _ z => z)
        exact Out.bnd.mp q
      refine o4.imp (fun b h2 o5 w3 H3 le4 hr3 => ?_) fun _ _ z => z
      cases b with
      | false =>
        show ∃ w' h' acc vs, _
        exact ⟨w3, h2, acc, vs, le3.trans le4, hr3, Rels.mono (le2.trans le4) _ _ ra, o5⟩
      | true =>
        show TD fx ZF fe σ2 H3 _
        have o6 : Out (fe ρ' h2) (fun d h3 => Out ((if acc.length < line then compL (fun x => M.tot (turnC own t fc fe ρ x)) (acc ++ [d]) (xs.drop (i + 1)) else M.fail) h3) (PC fx Q w R) (Z w R)) fun _ _ => False := (Out.bnd.mp (show Out ((do let y ← fe ρ'; pure (some y)) h2) _ _ from o5))
        refine ⟨w3, _, ρ', h2, ⟨hr3, s2.mono le4⟩, o6.imp (fun d h3 o7 w4 y H4 le5 hr4 r4 => ?_) fun _ _ z => z⟩
        by_cases hz : acc.length < line
        · rw [if_pos hz] at o7
          refine ⟨vs, hr4.sR _ _ upd_same, by rw [← ra.length, ← line_eq]; exact hz, w4, h3, acc ++ [d], vs ++ [y], (le3.trans le4).trans le5, ?_, Rels.app (Rels.mono ((le2.trans le4).trans le5) _ _ ra) (Rels.one r4), o7⟩
          have := hr4.putR (o := .lst (vs ++ [y])) (upd_same (H := R) (a := D) (o := HO.lst vs))
          rw [upd_upd] at this
          exact this
        · rw [if_neg hz] at o7; exact o7.elim
  · have e : i = xs.length := by omega
    subst e
    rw [List.drop_length] at o'
    have o' : PC fx Q w R acc h' := o'
    exact .inl ⟨wk2 (Nat.le_refl _), o' w' D vs H' (le1.trans le') hRD hr' ra⟩
end
end PL
end
section
set_option Elab.async false
set_option linter.all false
set_option maxHeartbeats 1000000
/-! PL12: new lists, what is frozen, what becomes a cell; methods of cells. -/
namespace PL
open PySem PySem.Spec PyProof.Rows L2
section
variable {fx : Fx} {Z : XW} {w : Wd} {R : Hp} {ρ : Env} {σ : L2.St} {h : Hs} {H : Hp} {Q : VK} {X : Cx}
variable {e a b c tg : Expr} {es : List Expr} {f g f3 : Env → M D} {fs gs fl : Env → M (List D)} {pos p p2 apos : Pos}
theorem PC.le {w1 : Wd} (le : Wle w w1) {ds : List D} {h1 : Hs} (q : PC fx Q w R ds h1) : PC fx Q w1 R ds h1 := fun w' p vs H' le' => q w' p vs H' (le.trans le')
/-! ### new lists -/
def lE (fs : Env → M (List D)) : Env → M (List D) := fun ρ => do let ds ← fs ρ; if ds.length ≤ line then pure ds else M.fail
theorem jl_L (zs : Std Z) (hr : PA X es (TL fx Z fs)) : PE X (.List es pos) (TC fx Z (lE fs)) := by
  refine PE.imp (pe_lst hr) fun σ H Q ⟨w, R, ρ, h, fr, o⟩ => ?_
  refine TL.then zs fr (Out.bnd.mp o) fun w1 vs H1 ds h1 le1 fr1 r1 o1 => ?_
  by_cases hz : ds.length ≤ line
  · rw [if_pos hz] at o1
    have o1 : PC fx Q w R ds h1 := o1
    exact ⟨by rw [← r1.length, ← line_eq]; exact hz, fun p hp => (o1.le le1).newLst fr1.hr r1 hp⟩
  · rw [if_neg hz] at o1; exact o1.elim
/-- the items of a list, a tuple -/
theorem itemsM_ok (hr : HR fx w R h H) {d : D} {v : V} {P : List D → Hs → Prop} {Z' : Exn → Hs → Prop} (r : Rel fx w d v) (o : Out (itemsM d h) P Z') : ∃ a vs ds, v = .ref a ∧ (SqL fx.K H a vs ∨ SqT fx.K H a vs) ∧ Rels fx w ds vs ∧ P ds h := by
  cases d with
  | ref n =>
    obtain ⟨c, e, o⟩ := (Out.bnd.mp o).cell
    obtain ⟨a, u, rfl, _, _, _, e4, cr⟩ := Rel.cell_at hr r e
    cases c with
    | lst ds => obtain ⟨vs, rfl, rs⟩ := cr; exact ⟨a, vs, ds, rfl, .inl (.inl (.inl e4)), rs, o⟩
    | dk _ _ => exact o.elim
    | ins _ _ _ => exact o.elim
  | lst ds => obtain ⟨a, vs, rfl, hq, rs⟩ := Rel.lst_at hr r; exact ⟨a, vs, ds, rfl, .inl (.inl (.inl hq)), rs, o⟩
  | tup ds => obtain ⟨a, vs, rfl, hq, rs⟩ := Rel.tup_at hr r; exact ⟨a, vs, ds, rfl, .inr hq, rs, o⟩
  | scr ns => obtain ⟨a, rfl, hq⟩ := Rel.scr_at hr r; exact ⟨a, _, _, rfl, .inl hq, rels_ints ns, o⟩
  | _ => exact o.elim
theorem listM_ok (hr : HR fx w R h H) {d : D} {v : V} {P : List D → Hs → Prop} {Z' : Exn → Hs → Prop} (r : Rel fx w d v) (o : Out (listM d h) P Z') : ∃ a vs ds, v = .ref a ∧ H a = some (.lst vs) ∧ Rels fx w ds vs ∧ P ds h := by
  cases d with
  | ref n =>
    obtain ⟨c, e, o⟩ := (Out.bnd.mp o).cell
    obtain ⟨a, u, rfl, _, _, _, e4, cr⟩ := Rel.cell_at hr r e
    cases c with
    | lst ds => obtain ⟨vs, rfl, rs⟩ := cr; exact ⟨a, vs, ds, rfl, e4, rs, o⟩
    | dk _ _ => exact o.elim
    | ins _ _ _ => exact o.elim
  | lst ds => obtain ⟨a, vs, rfl, hq, rs⟩ := Rel.lst_at hr r; exact ⟨a, vs, ds, rfl, hq, rs, o⟩
  | _ => exact o.elim
theorem jl_cp (zs : Std Z) (hK : X.K = fx.K) (hg : Gl X "list") (hm : X.mg "list" = none) (hs : isStar a = false) (ha : PE X a (TD fx Z f)) : PE X (.Call (.Name "list" p) [a] [] pos) (TC fx Z fun ρ => do let x ← f ρ; itemsM x) := by
  refine PE.imp (pe_callTy call_list_of hg hm (by rfl) (pa_cons ha pa_nil (star_ns hs)) (he := star_ns hs)) fun σ H Q ⟨w, R, ρ, h, fr, o⟩ => ?_
  refine TD.then zs fr (Out.bnd.mp o) fun w1 x H1 d1 h1 le1 fr1 r1 o1 => ?_
  obtain ⟨a, vs, ds, rfl, hq, rs, q⟩ := itemsM_ok fr1.hr r1 o1
  rw [hK]
  exact ⟨a, vs, rfl, hq, fun l hl => (q.le le1).newLst fr1.hr rs hl⟩
theorem rels_rg (a b : Int) : Rels fx w (rngD a b) (rgV a b) := by
  unfold rngD rgV
  have key : ∀ l : List Nat, Rels fx w (l.map fun (k : Nat) => D.int (a + k)) (l.map fun (i : Nat) => V.int (a + (i : Nat))) := by
    intro l
    induction l with
    | nil => exact rfl
    | cons k l ih => exact ⟨_, _, rfl, rfl, ih⟩
  exact key _
def lr1E (f : Env → M D) : Env → M (List D) := fun ρ => do
  let x ← f ρ
  match x with
  | .int b => if -1000 ≤ b ∧ b ≤ 1000000 then pure (rngD 0 b) else M.fail
  | _ => M.fail
def lr2E (f g : Env → M D) : Env → M (List D) := fun ρ => do
  let x ← f ρ
  let y ← g ρ
  match x, y with
  | .int a, .int b => if rngOk a ∧ rngOk b ∧ b - a ≤ 1000000 then pure (rngD a b) else M.fail
  | _, _ => M.fail
theorem jl_r1 (zs : Std Z) (hc : X.calm = true) (hg : Gl X "range") (hm : X.mg "range" = none) (hg2 : Gl X "list") (hm2 : X.mg "list" = none) (hs : isStar a = false) (ha : PE X a (TD fx Z f)) :
    PE X (.Call (.Name "list" p2) [.Call (.Name "range" p) [a] [] pos] [] apos) (TC fx Z (lr1E f)) := by
  refine PE.imp (pe_listRg hc hg2 hm2 (prg_1 hg hm ha (star_ns hs))) fun σ H Q ⟨w, R, ρ, h, fr, o⟩ => ?_
  refine TD.then zs fr (Out.bnd.mp o) fun w1 x H1 d1 h1 le1 fr1 r1 o1 => ?_
  cases d1 with
  | int b =>
    cases r1
    by_cases hz : -1000 ≤ b ∧ b ≤ 1000000
    · simp only [hz, and_self, if_true] at o1
      have o1 : PC fx Q w R (rngD 0 b) h1 := o1
      exact ⟨b, rfl, ⟨by omega, by omega, by omega, by omega, by omega⟩, fun l hl => (o1.le le1).newLst fr1.hr (rels_rg 0 b) hl⟩
    · simp only [hz, if_false] at o1; exact o1.elim
  | _ => exact o1.elim
theorem jl_r2 (zs : Std Z) (hc : X.calm = true) (hg : Gl X "range") (hm : X.mg "range" = none) (hg2 : Gl X "list") (hm2 : X.mg "list" = none) (hs : isStar a = false) (hs2 : isStar b = false) (ha : PE X a (TD fx Z f)) (hb : PE X b (TD fx Z g)) :
    PE X (.Call (.Name "list" p2) [.Call (.Name "range" p) [a, b] [] pos] [] apos) (TC fx Z (lr2E f g)) := by
  refine PE.imp (pe_listRg hc hg2 hm2 (prg_2 hg hm ha hb (star_ns hs) (star_ns hs2) (by rw [star_ns hs2]; rfl))) fun σ H Q ⟨w, R, ρ, h, fr, o⟩ => ?_
  refine TD.then zs fr (Out.bnd.mp o) fun w1 x H1 d1 h1 le1 fr1 r1 o1 => ?_
  refine TD.then zs fr1 (zle zs le1 (Out.bnd.mp o1)) fun w2 y H2 d2 h2 le2 fr2 r2 o2 => ?_
  cases d1 with
  | int i =>
    cases d2 with
    | int j =>
      cases r1; cases r2
      by_cases hz : rngOk i = true ∧ rngOk j = true ∧ j - i ≤ 1000000
      · obtain ⟨z1, z2⟩ := rngOk_iff hz.1
        obtain ⟨z3, z4⟩ := rngOk_iff hz.2.1
        have o2 : Out ((if rngOk i = true ∧ rngOk j = true ∧ j - i ≤ 1000000 then pure (rngD i j) else M.fail : M (List D)) h2) (PC fx Q w R) (Z w R) := o2
        rw [if_pos hz] at o2
        have o2 : PC fx Q w R (rngD i j) h2 := o2
        exact ⟨i, j, rfl, rfl, ⟨z1, z2, z3, z4, by omega⟩, fun l hl => (o2.le (le1.trans le2)).newLst fr2.hr (rels_rg i j) hl⟩
      · have o2 : Out ((if rngOk i = true ∧ rngOk j = true ∧ j - i ≤ 1000000 then pure (rngD i j) else M.fail : M (List D)) h2) (PC fx Q w R) (Z w R) := o2
        rw [if_neg hz] at o2; exact o2.elim
    | _ => exact o2.elim
  | _ => cases d2 <;> exact o2.elim
def lslE (f : Env → M D) (fl fh : Env → M (Option Int)) : Env → M (List D) := fun ρ => do
  let x ← f ρ
  let l ← fl ρ
  let u ← fh ρ
  let ds ← listM x
  pure (cutD ds l u)
theorem jl_sl {lo hi : Option Expr} {fl fh : Env → M (Option Int)} (zs : Std Z) (hK : X.K = fx.K) (ha : PE X a (TD fx Z f)) (hl : PO X lo (TO' fx Z fl)) (hh : PO X hi (TO' fx Z fh)) : PE X (.Subscript a (.Slice lo hi none p2) pos) (TC fx Z (lslE f fl fh)) := by
  refine PE.imp (pe_slice sl_list ha hl hh) fun σ H Q ⟨w, R, ρ, h, fr, o⟩ => ?_
  refine TD.then zs fr (Out.bnd.mp o) fun w1 x H1 d1 h1 le1 fr1 r1 o1 => ?_
  refine ⟨w1, R, ρ, h1, fr1, (zle zs le1 (Out.bnd.mp o1)).imp (fun l h2 o2 w2 H2 le2 hr2 => ?_) fun _ _ z => z⟩
  refine ⟨w2, R, ρ, h2, fr1.to le2 hr2, (zle zs (le1.trans le2) (Out.bnd.mp o2)).imp (fun u h3 o3 w3 H3 le3 hr3 => ?_) fun _ _ z => z⟩
  obtain ⟨a, vs, ds, rfl, hq, rs, q⟩ := listM_ok hr3 (Rel.mono (le2.trans le3) _ _ r1) (Out.bnd.mp o3)
  have q : PC fx Q w R (cutD ds l u) h3 := q
  rw [hK]
  exact ⟨a, vs, rfl, .inl (.inl hq), fun p hp => (q.le (le1.trans (le2.trans le3))).newLst hr3 (rs.cut l u) hp⟩
def lcatE (f g : Env → M D) : Env → M (List D) := fun ρ => do
  let x ← f ρ
  let y ← g ρ
  let xs ← listM x
  let ys ← listM y
  if xs.length + ys.length ≤ line then pure (xs ++ ys) else M.fail
theorem jl_cat (zs : Std Z) (ha : PE X a (TD fx Z f)) (hb : PE X b (TD fx Z g)) : PE X (.BinOp a .Add b pos) (TC fx Z (lcatE f g)) := by
  refine PE.imp (pe_op op_cat ha hb) fun σ H Q ⟨w, R, ρ, h, fr, o⟩ => ?_
  refine TD.then zs fr (Out.bnd.mp o) fun w1 x H1 d1 h1 le1 fr1 r1 o1 => ?_
  refine TD.then zs fr1 (zle zs le1 (Out.bnd.mp o1)) fun w2 y H2 d2 h2 le2 fr2 r2 o2 => ?_
  obtain ⟨l, vs, ds, rfl, hq, rs, o3⟩ := listM_ok fr2.hr (Rel.mono le2 _ _ r1) (Out.bnd.mp o2)
  obtain ⟨m, us, es, rfl, hq2, rs2, o4⟩ := listM_ok fr2.hr r2 (Out.bnd.mp o3)
  by_cases hz : ds.length + es.length ≤ line
  · rw [if_pos hz] at o4
    have o4 : PC fx Q w R (ds ++ es) h2 := o4
    exact ⟨l, m, vs, us, rfl, rfl, hq, hq2, by rw [← rs.length, ← rs2.length, ← line_eq]; exact hz, fun p hp => (o4.le (le1.trans le2)).newLst fr2.hr (rs.app rs2) hp⟩
  · rw [if_neg hz] at o4; exact o4.elim
def lrepE (f g : Env → M D) : Env → M (List D) := fun ρ => do
  let x ← f ρ
  let y ← g ρ
  let ds ← listM x
  match y with
  | .int k => if -1000000 ≤ k ∧ k ≤ 1000000 ∧ ds.length * k.toNat ≤ line then pure (List.replicate k.toNat ds).flatten else M.fail
  | _ => M.fail
theorem rels_rep {ds : List D} {vs : List V} (r : Rels fx w ds vs) : ∀ n, Rels fx w (List.replicate n ds).flatten (List.replicate n vs).flatten
  | 0 => rfl
  | n + 1 => by
    rw [List.replicate_succ, List.replicate_succ, List.flatten_cons, List.flatten_cons]
    exact Rels.app r (rels_rep r n)
theorem jl_rep (zs : Std Z) (ha : PE X a (TD fx Z f)) (hb : PE X b (TD fx Z g)) : PE X (.BinOp a .Mult b pos) (TC fx Z (lrepE f g)) := by
  refine PE.imp (pe_op op_rep ha hb) fun σ H Q ⟨w, R, ρ, h, fr, o⟩ => ?_
  refine TD.then zs fr (Out.bnd.mp o) fun w1 x H1 d1 h1 le1 fr1 r1 o1 => ?_
  refine TD.then zs fr1 (zle zs le1 (Out.bnd.mp o1)) fun w2 y H2 d2 h2 le2 fr2 r2 o2 => ?_
  obtain ⟨l, vs, ds, rfl, hq, rs, o3⟩ := listM_ok fr2.hr (Rel.mono le2 _ _ r1) (Out.bnd.mp o2)
  cases d2 with
  | int k =>
    cases r2
    have o3 : Out ((if -1000000 ≤ k ∧ k ≤ 1000000 ∧ ds.length * k.toNat ≤ line then pure (List.replicate k.toNat ds).flatten else M.fail : M (List D)) h2) (PC fx Q w R) (Z w R) := o3
    by_cases hz : -1000000 ≤ k ∧ k ≤ 1000000 ∧ ds.length * k.toNat ≤ line
    · rw [if_pos hz] at o3
      have o3 : PC fx Q w R (List.replicate k.toNat ds).flatten h2 := o3
      exact ⟨l, k, vs, rfl, rfl, hq, by omega, by omega, by rw [← rs.length, ← line_eq]; exact hz.2.2, fun p hp => (o3.le (le1.trans le2)).newLst fr2.hr (rels_rep rs _) hp⟩
    · rw [if_neg hz] at o3; exact o3.elim
  | _ => exact o3.elim
def lsplE (f g : Env → M D) : Env → M (List D) := fun ρ => do
  let x ← f ρ
  if smR .partition x then do
    let y ← g ρ
    match x, y with
    | .str s, .str p => if s.length + 2 ≤ line ∧ p.length ≠ 0 then pure ((Txt.split (st s) (st p)).map fun z => .str (un z)) else M.fail
    | _, _ => M.fail
  else M.fail
theorem rels_un (zs : List Str) : Rels fx w (zs.map fun z => .str (un z)) (zs.map V.str) := by
  induction zs with
  | nil => exact rfl
  | cons z zs ih => exact ⟨_, _, rfl, (show V.str z = V.str (st (un z)) by rw [st_un]), ih⟩
theorem jl_spl (zs : Std Z) (hn : nsup a = true) (hs : isStar b = false) (hline : (apos.endLine == pos.line) = true) (ha : PE X a (TD fx Z f)) (hb : PE X b (TD fx Z g)) : PE X (.Call (.Attribute a "split" apos) [b] [] pos) (TC fx Z (lsplE f g)) := by
  refine PE.imp (pe_split ha hb (star_ns hs) (abase hn) hline) fun σ H Q ⟨w, R, ρ, h, fr, o⟩ => ?_
  refine TD.then zs fr (Out.bnd.mp o) fun w1 x H1 d1 h1 le1 fr1 r1 o1 => ?_
  cases d1 with
  | str s =>
    cases r1
    refine ⟨⟨_, rfl⟩, ?_⟩
    have o1 : Out ((do let y ← g ρ; match D.str s, y with | .str s, .str p => if s.length + 2 ≤ line ∧ p.length ≠ 0 then pure ((Txt.split (st s) (st p)).map fun z => D.str (un z)) else M.fail | _, _ => M.fail) h1) (PC fx Q w R) (Z w R) := o1
    refine TD.then zs fr1 (zle zs le1 (Out.bnd.mp o1)) fun w2 y H2 d2 h2 le2 fr2 r2 o2 => ?_
    cases d2 with
    | str p =>
      cases r2
      have o2 : Out ((if s.length + 2 ≤ line ∧ p.length ≠ 0 then pure ((Txt.split (st s) (st p)).map fun z => D.str (un z)) else M.fail : M (List D)) h2) (PC fx Q w R) (Z w R) := o2
      by_cases hz : s.length + 2 ≤ line ∧ p.length ≠ 0
      · rw [if_pos hz] at o2
        have o2 : PC fx Q w R ((Txt.split (st s) (st p)).map fun z => D.str (un z)) h2 := o2
        exact ⟨_, _, rfl, rfl, st_ne hz.2, by rw [st_len, ← line_eq]; exact hz.1, fun l hl => (o2.le (le1.trans le2)).newLst fr2.hr (rels_un _) hl⟩
      · rw [if_neg hz] at o2; exact o2.elim
    | _ => exact o2.elim
  | _ => exact o1.elim

/-! ### frozen, or a cell -/
theorem del_upd {p : Addr} {o : HO} (n : R p = none) : del (upd R p o) p = R := by
  funext b
  by_cases h : b = p
  · subst h; rw [del_same, n]
  · rw [del_ne h, upd_ne h]
theorem pc_fz {ds : List D} (q : PD fx Q w R (.lst ds) h) : PC fx Q w R ds h := by
  intro w' p vs H' le hn hr rs
  obtain ⟨r1, le1⟩ := hr.frz upd_same
  rw [del_upd hn] at r1
  exact q _ _ H' (le.trans le1) r1 ⟨p, vs, rfl, upd_same, Rels.mono le1 _ _ rs⟩
theorem je_fz (zs : Std Z) (ha : PE X e (TC fx Z fl)) : PE X e (TD fx Z fun ρ => do let ds ← fl ρ; pure (.lst ds)) := by
  refine PE.imp ha fun σ H Q ⟨w, R, ρ, h, fr, o⟩ => ⟨w, R, ρ, h, fr, (Out.bnd.mp o).imp (fun ds h1 q => ?_) fun _ _ z => z⟩
  exact pc_fz q
theorem je_hp (zs : Std Z) (ha : PE X e (TC fx Z fl)) : PE X e (TD fx Z fun ρ => do let ds ← fl ρ; alloc (.lst ds)) := by
  refine PE.imp ha fun σ H Q ⟨w, R, ρ, h, fr, o⟩ => ⟨w, R, ρ, h, fr, (Out.bnd.mp o).imp (fun ds h1 q => ?_) fun _ _ z => z⟩
  have q : PD fx Q w R (.ref h1.nx) (h1.new (.lst ds)) := q
  intro w' p vs H' le hn hr rs
  obtain ⟨r1, le1⟩ := hr.adopt (c := .lst ds) hn ⟨vs, rfl, rs⟩
  exact q _ _ H' (le.trans le1) r1 ⟨p, rfl, by show (if h1.nx = h1.nx then some p else _) = _; rw [if_pos rfl]⟩

/-! ### methods of cells -/
theorem bm_ok {env : PySem.Env} (hs : isStar b = false) : ((((backTo pos (starEach [b] env)).all fun x => !x.fst) && (backToKw pos (keywordEach [] env)).all fun x => x.fst.isSome) && decide (([b].length + ([] : List Keyword).length + if ([] : List Keyword).isEmpty = true then 0 else 1) < 30)) = true := by
  rw [star_ns hs]; rfl
theorem lstM_ok (hr : HR fx w R h H) {d : D} {v : V} {P : Nat × List D → Hs → Prop} {Z' : Exn → Hs → Prop} (r : Rel fx w d v) (o : Out (lstM d h) P Z') : ∃ n a vs ds, d = .ref n ∧ v = .ref a ∧ w.ph n = some a ∧ h.cells n = some (.lst ds) ∧ H a = some (.lst vs) ∧ Rels fx w ds vs ∧ P (n, ds) h := by
  cases d with
  | ref n =>
    obtain ⟨c, e, o⟩ := (Out.bnd.mp o).cell
    obtain ⟨a, u, rfl, e1, _, _, e4, cr⟩ := Rel.cell_at hr r e
    cases c with
    | lst ds => obtain ⟨vs, rfl, rs⟩ := cr; exact ⟨n, a, vs, ds, rfl, rfl, e1, e, e4, rs, o⟩
    | dk _ _ => exact (Out.bnd.mp o).elim
    | ins _ _ _ => exact (Out.bnd.mp o).elim
  | _ => exact o.elim
def happE (f g : Env → M D) : Env → M D := fun ρ => do
  let x ← f ρ
  let _ ← lstM x
  let y ← g ρ
  let (n, ds) ← lstM x
  if ds.length < line then do
    putAt n (.lst (ds ++ [y]))
    pure .non
  else M.fail
theorem je_happ (zs : Std Z) (hK : X.K = fx.K) (hn : nsup a = true) (hs : isStar b = false) (hline : (apos.endLine == pos.line) = true) (ha : PE X a (TD fx Z f)) (hb : PE X b (TD fx Z g)) :
    PE X (.Call (.Attribute a "append" apos) [b] [] pos) (TD fx Z (happE f g)) := by
  refine PE.imp (pe_bm PySem.F.plainAttrs_list PySem.F.slot_list_append PySem.F.type_list_append mt_append ha (pa_cons hb pa_nil (star_ns hs)) (abase hn) (bm_ok hs) hline (star_ns hs)) fun σ H Q ⟨w, R, ρ, h, fr, o⟩ => ?_
  refine TD.then zs fr (Out.bnd.mp o) fun w1 x H1 d1 h1 le1 fr1 r1 o1 => ?_
  obtain ⟨n, l, vs, ds, rfl, rfl, _, _, e4, rs, o2⟩ := lstM_ok fr1.hr r1 (Out.bnd.mp o1)
  refine ⟨.inl ⟨rfl, vs, by rw [hK]; exact .inl (.inl e4)⟩, ?_⟩
  refine TD.then zs fr1 (zle zs le1 (Out.bnd.mp o2)) fun w2 y H2 d2 h2 le2 fr2 r2 o3 => ?_
  obtain ⟨n', l', vs', ds', e1, e2, e3, e5, e6, rs', o4⟩ := lstM_ok fr2.hr (Rel.mono le2 _ _ r1) (Out.bnd.mp o3)
  cases e1; cases e2
  by_cases hz : ds'.length < line
  · have o4 : Out ((if ds'.length < line then do putAt n (.lst (ds' ++ [d2])); pure .non else M.fail : M D) h2) (PD fx Q w R) (Z w R) := o4
    rw [if_pos hz] at o4
    obtain ⟨_, q⟩ := (Out.bnd.mp o4).putAt
    have q : PD fx Q w R .non (h2.put n (.lst (ds' ++ [d2]))) := q
    refine ⟨l, vs', y, rfl, rfl, e6, by rw [← rs'.length, ← line_eq]; exact hz, ?_⟩
    exact q w2 _ _ (le1.trans le2) (fr2.hr.put e5 e3 ⟨_, rfl, rs'.app (Rels.one r2)⟩) rfl
  · have o4 : Out ((if ds'.length < line then do putAt n (.lst (ds' ++ [d2])); pure .non else M.fail : M D) h2) (PD fx Q w R) (Z w R) := o4
    rw [if_neg hz] at o4; exact o4.elim
def hpopE (f : Env → M D) : Env → M D := fun ρ => do
  let x ← f ρ
  let (n, ds) ← lstM x
  match ds[ds.length - 1]? with
  | some d => do
    putAt n (.lst ds.dropLast)
    pure d
  | none => M.fail
theorem Rels.dropLast {ds : List D} {vs : List V} (r : Rels fx w ds vs) : Rels fx w ds.dropLast vs.dropLast := by
  rw [List.dropLast_eq_take, List.dropLast_eq_take, r.length]
  exact Rels.take _ r
theorem je_hpop (zs : Std Z) (hK : X.K = fx.K) (hn : nsup a = true) (hline : (apos.endLine == pos.line) = true) (ha : PE X a (TD fx Z f)) :
    PE X (.Call (.Attribute a "pop" apos) [] [] pos) (TD fx Z (hpopE f)) := by
  refine PE.imp (pe_bm0 PySem.F.plainAttrs_list PySem.F.slot_list_pop PySem.F.type_list_pop mt_pop ha (abase hn) hline) fun σ H Q ⟨w, R, ρ, h, fr, o⟩ => ?_
  refine TD.then zs fr (Out.bnd.mp o) fun w1 x H1 d1 h1 le1 fr1 r1 o1 => ?_
  obtain ⟨n, l, vs, ds, rfl, rfl, e3, e5, e4, rs, o2⟩ := lstM_ok fr1.hr r1 (Out.bnd.mp o1)
  refine ⟨.inl ⟨rfl, vs, by rw [hK]; exact .inl (.inl e4)⟩, ?_⟩
  have o2 : Out ((match ds[ds.length - 1]? with | some d => do putAt n (.lst ds.dropLast); pure d | none => M.fail : M D) h1) (PD fx Q w R) (Z w R) := o2
  cases e : ds[ds.length - 1]? with
  | none => rw [e] at o2; exact o2.elim
  | some d =>
    rw [e] at o2
    obtain ⟨_, q⟩ := (Out.bnd.mp o2).putAt
    have q : PD fx Q w R d (h1.put n (.lst ds.dropLast)) := q
    obtain ⟨v, g1, g2⟩ := Rels.get rs e
    refine ⟨l, vs, v, rfl, rfl, e4, by rw [← rs.length]; exact g1, ?_⟩
    exact q w1 _ _ le1 (fr1.hr.put e5 e3 ⟨_, rfl, rs.dropLast⟩) g2
def hrevE (f : Env → M D) : Env → M D := fun ρ => do
  let x ← f ρ
  let (n, ds) ← lstM x
  putAt n (.lst ds.reverse)
  pure .non
theorem je_hrev (zs : Std Z) (hK : X.K = fx.K) (hn : nsup a = true) (hline : (apos.endLine == pos.line) = true) (ha : PE X a (TD fx Z f)) :
    PE X (.Call (.Attribute a "reverse" apos) [] [] pos) (TD fx Z (hrevE f)) := by
  refine PE.imp (pe_bm0 PySem.F.plainAttrs_list PySem.F.slot_list_reverse PySem.F.type_list_reverse mt_reverse ha (abase hn) hline) fun σ H Q ⟨w, R, ρ, h, fr, o⟩ => ?_
  refine TD.then zs fr (Out.bnd.mp o) fun w1 x H1 d1 h1 le1 fr1 r1 o1 => ?_
  obtain ⟨n, l, vs, ds, rfl, rfl, e3, e5, e4, rs, o2⟩ := lstM_ok fr1.hr r1 (Out.bnd.mp o1)
  refine ⟨.inl ⟨rfl, vs, by rw [hK]; exact .inl (.inl e4)⟩, ?_⟩
  obtain ⟨_, q⟩ := (Out.bnd.mp o2).putAt
  have q : PD fx Q w R .non (h1.put n (.lst ds.reverse)) := q
  exact ⟨l, vs, rfl, rfl, e4, q w1 _ _ le1 (fr1.hr.put e5 e3 ⟨_, rfl, rs.rev⟩) rfl⟩
def hclearE (f : Env → M D) : Env → M D := fun ρ => do
  let x ← f ρ
  let (n, _) ← lstM x
  putAt n (.lst [])
  pure .non
theorem je_hclear (zs : Std Z) (hK : X.K = fx.K) (hn : nsup a = true) (hline : (apos.endLine == pos.line) = true) (ha : PE X a (TD fx Z f)) :
    PE X (.Call (.Attribute a "clear" apos) [] [] pos) (TD fx Z (hclearE f)) := by
  refine PE.imp (pe_bm0 PySem.F.plainAttrs_list PySem.F.slot_list_clear PySem.F.type_list_clear mt_clear ha (abase hn) hline) fun σ H Q ⟨w, R, ρ, h, fr, o⟩ => ?_
  refine TD.then zs fr (Out.bnd.mp o) fun w1 x H1 d1 h1 le1 fr1 r1 o1 => ?_
  obtain ⟨n, l, vs, ds, rfl, rfl, e3, e5, e4, rs, o2⟩ := lstM_ok fr1.hr r1 (Out.bnd.mp o1)
  refine ⟨.inl ⟨rfl, vs, by rw [hK]; exact .inl (.inl e4)⟩, ?_⟩
  obtain ⟨_, q⟩ := (Out.bnd.mp o2).putAt
  have q : PD fx Q w R .non (h1.put n (.lst [])) := q
  exact ⟨l, vs, rfl, rfl, e4, q w1 _ _ le1 (fr1.hr.put (c' := .lst []) (o := .lst []) e5 e3 ⟨[], rfl, rfl⟩) rfl⟩
def hpopatE (f g : Env → M D) : Env → M D := fun ρ => do
  let x ← f ρ
  let _ ← lstM x
  let y ← g ρ
  let (n, ds) ← lstM x
  match y with
  | .int i =>
    if 0 ≤ i ∧ i < 1000000 then
      match ds[i.toNat]? with
      | some d => do
        putAt n (.lst (ds.eraseIdx i.toNat))
        pure d
      | none => M.fail
    else M.fail
  | _ => M.fail
theorem Rels.erase : ∀ {ds : List D} {vs : List V} (i : Nat), Rels fx w ds vs → Rels fx w (ds.eraseIdx i) (vs.eraseIdx i)
  | [], _, _, h => by cases h; exact rfl
  | _ :: ds, _, 0, ⟨_, r, e, _, b⟩ => by subst e; exact b
  | _ :: ds, _, i + 1, ⟨_, r, e, a, b⟩ => by subst e; exact ⟨_, _, rfl, a, Rels.erase i b⟩
theorem je_hpopat (zs : Std Z) (hK : X.K = fx.K) (hn : nsup a = true) (hs : isStar b = false) (hline : (apos.endLine == pos.line) = true) (ha : PE X a (TD fx Z f)) (hb : PE X b (TD fx Z g)) :
    PE X (.Call (.Attribute a "pop" apos) [b] [] pos) (TD fx Z (hpopatE f g)) := by
  refine PE.imp (pe_bm PySem.F.plainAttrs_list PySem.F.slot_list_pop PySem.F.type_list_pop mt_popAt ha (pa_cons hb pa_nil (star_ns hs)) (abase hn) (bm_ok hs) hline (star_ns hs)) fun σ H Q ⟨w, R, ρ, h, fr, o⟩ => ?_
  refine TD.then zs fr (Out.bnd.mp o) fun w1 x H1 d1 h1 le1 fr1 r1 o1 => ?_
  obtain ⟨n, l, vs, ds, rfl, rfl, _, _, e4, rs, o2⟩ := lstM_ok fr1.hr r1 (Out.bnd.mp o1)
  refine ⟨.inl ⟨rfl, vs, by rw [hK]; exact .inl (.inl e4)⟩, ?_⟩
  refine TD.then zs fr1 (zle zs le1 (Out.bnd.mp o2)) fun w2 y H2 d2 h2 le2 fr2 r2 o3 => ?_
  obtain ⟨n', l', vs', ds', e1, e2, e3, e5, e6, rs', o4⟩ := lstM_ok fr2.hr (Rel.mono le2 _ _ r1) (Out.bnd.mp o3)
  cases e1; cases e2
  cases d2 with
  | int i =>
    cases r2
    have o4 : Out ((if 0 ≤ i ∧ i < 1000000 then match ds'[i.toNat]? with | some d => do putAt n (.lst (ds'.eraseIdx i.toNat)); pure d | none => M.fail else M.fail : M D) h2) (PD fx Q w R) (Z w R) := o4
    by_cases hz : 0 ≤ i ∧ i < 1000000
    · rw [if_pos hz] at o4
      cases e : ds'[i.toNat]? with
      | none => rw [e] at o4; exact o4.elim
      | some d =>
        rw [e] at o4
        obtain ⟨_, q⟩ := (Out.bnd.mp o4).putAt
        have q : PD fx Q w R d (h2.put n (.lst (ds'.eraseIdx i.toNat))) := q
        obtain ⟨v, g1, g2⟩ := Rels.get rs' e
        have hlt : i.toNat < vs'.length := (List.getElem?_eq_some_iff.mp g1).1
        refine ⟨l, vs', i, i.toNat, v, rfl, rfl, e6, by omega, by omega, ?_, g1, q w2 _ _ (le1.trans le2) (fr2.hr.put e5 e3 ⟨_, rfl, rs'.erase _⟩) g2⟩
        show (if (0 ≤ (if i < 0 then i + (vs'.length : Int) else i) && (if i < 0 then i + (vs'.length : Int) else i) < (vs'.length : Int)) = true then some (if i < 0 then i + (vs'.length : Int) else i).toNat else none) = some i.toNat
        rw [if_neg (show ¬ i < 0 by omega), if_pos (by simp only [Bool.and_eq_true, decide_eq_true_eq]; omega)]
    · rw [if_neg hz] at o4; exact o4.elim
  | _ => exact o4.elim
end
end PL
end
section
set_option Elab.async false
set_option linter.all false
set_option maxHeartbeats 1000000
/-! PL13: statements: the evaluator, the readings. -/
namespace PL
open PySem PySem.Spec PyProof.Rows L2
inductive Fl where
  | nx | bk | ct | ret (d : D)
abbrev MS := Env → M (Fl × Env)
/-- n turns at most of a while -/
def whlN (t : Env → M Bool) (b : MS) : Nat → MS
  | 0, _ => M.fail
  | n + 1, ρ => do
    let k ← t ρ
    if k then do
      let (fl, ρ') ← b ρ
      match fl with
      | .nx => whlN t b n ρ'
      | .ct => whlN t b n ρ'
      | .bk => pure (.nx, ρ')
      | .ret d => pure (.ret d, ρ')
    else pure (.nx, ρ)
def Res.isBad {α : Type} : Res α → Bool
  | .bad => true
  | _ => false
open Classical in
noncomputable def whlM (t : Env → M Bool) (b : MS) : MS := fun ρ h => if x : ∃ n, (whlN t b n ρ h).isBad = false then whlN t b (Classical.choose x) ρ h else .bad
def forM (st : D → Env → Option Env) (b : MS) : List D → MS
  | [], ρ => M.ret (.nx, ρ)
  | x :: xs, ρ => do
    let ρ' ← M.opt (st x ρ)
    let (fl, ρ'') ← b ρ'
    match fl with
    | .nx => forM st b xs ρ''
    | .ct => forM st b xs ρ''
    | .bk => M.ret (.nx, ρ'')
    | .ret d => M.ret (.ret d, ρ'')
def setOwn (ρ : Env) (i : Nat) (c : HC) : Option Env := if i < ρ.length then some (ρ.set i (.own c)) else none
def fzsP (ρ : Env) (i : Nat) : Option Env := match ρ[i]? with
  | some (.own (.lst ds)) => some (ρ.set i (.val (.lst ds)))
  | some (.own (.dk ks vs)) => some (ρ.set i (.val (.dk ks vs)))
  | some (.val d) => some ρ
  | _ => none
/-- an entry of a dict -/
def putDk (k : DKey) (ks : List DKey) : List DKey := if k ∈ ks then ks else ks ++ [k]
def putDv (k : DKey) (v : D) (ks : List DKey) (ds : List D) : List D := if k ∈ ks then (ks.zip ds).map (fun p => if p.1 = k then v else p.2) else ds ++ [v]
def setC (c : HC) (a v : D) : Option HC := match c, a with
  | .lst ds, .int i => (ixD ds.length i).map fun j => .lst (ds.set j v)
  | .dk ks ds, a => (keyD a).bind fun k => if ks.length < line then some (.dk (putDk k ks) (putDv k v ks ds)) else none
  | _, _ => none
def putFf (f : Nat) : List Nat → List Nat
  | [] => [f]
  | g :: fs => if g = f then g :: fs else g :: putFf f fs
def putFv (f : Nat) (v : D) : List Nat → List D → List D
  | g :: fs, d :: ds => if g = f then v :: ds else d :: putFv f v fs ds
  | _, _ => [v]
def hsetM (x y v : D) : M Unit := do
  let (n, ds) ← lstM x
  let c' ← M.opt (setC (.lst ds) y v)
  putAt n c'
def fsetM (x : D) (f : Nat) (v : D) : M Unit := match x with
  | .ref n => do
    let c ← cellAt n
    match c with
    | .ins cl fs ds => if fs.length < 900 then putAt n (.ins cl (putFf f fs) (putFv f v fs ds)) else M.fail
    | _ => M.fail
  | _ => M.fail
/-- the slots of an except suite: the exception alone -/
def sufρ (m i : Nat) (e : Exn) : Env := (List.replicate m Sl.non).set i (.exn e)
/-- behind the suite the slots are not known any more -/
def offE (x : Fl × Env) : Fl × Env := (x.1, List.replicate x.2.length .non)
/-- try: [return ('..',] the lambda() [)]; except c as i: s -/
def tryM (C : Cfg) (i c m : Nat) (pre : Option (List Nat)) (a : Nat) (s : MS) : MS := fun ρ h => match lcallE C a ρ h with
  | .ok d h' => (match pre with
    | some t => .ok (.ret (.tup [.str t, d]), ρ) h'
    | none => .ok (.nx, ρ) h')
  | .exc e h' => (match C.xs e.cls with
    | some l => if c ∈ l then (match s (sufρ m i e) h' with
        | .ok x h'' => .ok (offE x) h''
        | .exc e' h'' => .bad
        | .bad => .bad) else .exc e h'
    | none => .bad)
  | .bad => .bad
mutual
noncomputable def exec (C : Cfg) : St → MS
  | .expr e, ρ => do let _ ← ev C e ρ; pure (.nx, ρ)
  | .ret e, ρ => do let d ← ev C e ρ; pure (.ret d, ρ)
  | .retN, ρ => M.ret (.ret .non, ρ)
  | .iff t a b, ρ => do
    let x ← ev C t ρ
    let k ← truth x
    if k then execs C a ρ else execs C b ρ
  | .whl t b, ρ => whlM (tru (ev C t)) (execs C b) ρ
  | .fr tg it b, ρ => do let xs ← evI C it ρ; forM (setTg tg) (execs C b) xs ρ
  | .set i e, ρ => do let d ← ev C e ρ; let ρ' ← M.opt (setSl ρ i d); pure (.nx, ρ')
  | .setT tg e, ρ => do let d ← ev C e ρ; let ρ' ← M.opt (setTg tg d ρ); pure (.nx, ρ')
  | .par i j a b, ρ => do
    let x ← ev C a ρ
    let y ← ev C b ρ
    let ρ1 ← M.opt (setSl ρ i x)
    let ρ2 ← M.opt (setSl ρ1 j y)
    pure (.nx, ρ2)
  | .own i l, ρ => do let ds ← evL C l ρ; let ρ' ← M.opt (setOwn ρ i (.lst ds)); pure (.nx, ρ')
  | .owd i, ρ => do let ρ' ← M.opt (setOwn ρ i (.dk [] [])); pure (.nx, ρ')
  | .fzs i, ρ => do let ρ' ← M.opt (fzsP ρ i); pure (.nx, ρ')
  | .oapp i e, ρ => do
    let c ← getOwn ρ i
    let ds ← listC c
    let d ← ev C e ρ
    if ds.length < line then do let ρ' ← M.opt (setOwn ρ i (.lst (ds ++ [d]))); pure (.nx, ρ') else M.fail
  | .oset i a e, ρ => do
    let v ← ev C e ρ
    let c ← getOwn ρ i
    let k ← ev C a ρ
    let c' ← M.opt (setC c k v)
    let ρ' ← M.opt (setOwn ρ i c')
    pure (.nx, ρ')
  | .hset o a e, ρ => do
    let v ← ev C e ρ
    let x ← ev C o ρ
    let y ← ev C a ρ
    hsetM x y v
    pure (.nx, ρ)
  | .fset o f e, ρ => do
    let v ← ev C e ρ
    let x ← ev C o ρ
    fsetM x f v
    pure (.nx, ρ)
  | .rais c es, ρ => do let ds ← evs C es ρ; M.thr ⟨c, ds⟩
  | .tryE i c m pre a s, ρ => tryM C i c m pre a (execs C s) ρ
  | .brk, ρ => M.ret (.bk, ρ)
  | .cont, ρ => M.ret (.ct, ρ)
  | .pass, ρ => M.ret (.nx, ρ)
  | _, _ => M.fail
noncomputable def execs (C : Cfg) : List St → MS
  | [], ρ => M.ret (.nx, ρ)
  | s :: ss, ρ => do
    let (fl, ρ') ← exec C s ρ
    match fl with
    | .nx => execs C ss ρ'
    | .bk => M.ret (.bk, ρ')
    | .ct => M.ret (.ct, ρ')
    | .ret d => M.ret (.ret d, ρ')
end
/-- the wish of an exception: where less is owned, it is wished, too -/
def StdR (Z : XW) : Prop := ∀ w R R' e h, Same R R' → Z w R e h → Z w R' e h
structure FrS (fx : Fx) (R0 : Hp) (w : Wd) (R : Hp) (ρ : Env) (σ : L2.St) (h : Hs) (H : Hp) : Prop where
  fr : Fr fx w R ρ σ h H
  s0 : Same R0 R
  own : ∀ (i : Nat) (c : HC) (a : Addr), ρ[i]? = some (Sl.own c) → σ[i]? = some (some (V.ref a)) → R0 a = none ∧ ∀ (j : Nat) (d : HC), ρ[j]? = some (Sl.own d) → σ[j]? = some (some (V.ref a)) → j = i
def PSd (fx : Fx) (E : L2.Ends) (R0 : Hp) (w : Wd) (x : Fl × Env) (h' : Hs) : Prop := match x.1 with
  | .nx => ∀ w' R' σ' H', Wle w w' → FrS fx R0 w' R' x.2 σ' h' H' → E.nx σ' H'
  | .bk => ∀ w' R' σ' H', Wle w w' → FrS fx R0 w' R' x.2 σ' h' H' → E.bk σ' H'
  | .ct => ∀ w' R' σ' H', Wle w w' → FrS fx R0 w' R' x.2 σ' h' H' → E.ct σ' H'
  | .ret d => ∀ w' v H', Wle w w' → HR fx w' R0 h' H' → Rel fx w' d v → E.rt v H'
def TSt (fx : Fx) (Z : XW) (R0 : Hp) (f : MS) : TS := fun E σ H => ∃ w R ρ h, FrS fx R0 w R ρ σ h H ∧ Out (f ρ h) (PSd fx E R0 w) (Z w R0)
theorem HR.weak {fx : Fx} {w : Wd} {R R' : Hp} {h : Hs} {H : Hp} (r : HR fx w R' h H) (s : Same R R') : HR fx w R h H := by
  have no : ∀ a, R' a = Option.none → R a = Option.none := fun a e => s.free e
  exact ⟨r.sF, fun a o e => r.sR a o (s a o e), fun a o e => no a (r.dis a o e), fun n c e => by
    obtain ⟨a, o, e1, e2, e3, e4, e5⟩ := r.live n c e
    exact ⟨a, o, e1, e2, no a e3, e4, e5⟩, r.inj, fun n a e => ⟨(r.rng n a e).1, no a (r.rng n a e).2⟩, r.top, r.ps, r.nF, fun a o e => r.nR a o (s a o e)⟩
section
variable {fx : Fx} {Z : XW} {R0 : Hp} {w : Wd} {R : Hp} {ρ : Env} {σ : L2.St} {h : Hs} {H : Hp} {Q : VK} {X : Cx} {E : L2.Ends}
variable {e a b c tg : Expr} {es : List Expr} {f g f3 : Env → M D} {fs gs fl : Env → M (List D)} {pos p p2 apos : Pos} {s1 s2 : MS} {st : Stmt} {ss ss2 : List Stmt}
theorem PS.imp {X : Cx} {e : Stmt} {t t' : TS} (p : PS X e t) (k : ∀ E σ H, t' E σ H → t E σ H) : PS X e t' := ⟨fun pins s σ H E I h => p.run pins s σ H E I (k E σ H h)⟩
theorem PSs.imp {X : Cx} {e : List Stmt} {t t' : TS} (p : PSs X e t) (k : ∀ E σ H, t' E σ H → t E σ H) : PSs X e t' := ⟨fun pins s σ H E I h => p.run pins s σ H E I (k E σ H h)⟩
theorem FrS.to (f : FrS fx R0 w R ρ σ h H) {w1 : Wd} {h1 : Hs} {H1 : Hp} (le : Wle w w1) (r : HR fx w1 R h1 H1) : FrS fx R0 w1 R ρ σ h1 H1 := ⟨f.fr.to le r, f.s0, f.own⟩
/-- a value, then more -/
theorem TD.thenS {P : VK} {Qd : D → Hs → Prop} (zr : StdR Z) (fs : FrS fx R0 w R ρ σ h H) (o : Out (f ρ h) Qd (Z w R0))
    (k : ∀ w1 v H1 d h1, Wle w w1 → FrS fx R0 w1 R ρ σ h1 H1 → Rel fx w1 d v → Qd d h1 → P v H1) : TD fx Z f σ H P :=
  ⟨w, R, ρ, h, fs.fr, o.imp (fun d h1 q w1 v H1 le r rel => k w1 v H1 d h1 le (fs.to le r) rel q) fun _ _ x => zr _ _ _ _ _ fs.s0 x⟩
theorem TB.thenS {f : Env → M Bool} {P : Bool → Hp → Prop} {Qd : Bool → Hs → Prop} (zr : StdR Z) (fs : FrS fx R0 w R ρ σ h H) (o : Out (f ρ h) Qd (Z w R0))
    (k : ∀ w1 H1 d h1, Wle w w1 → FrS fx R0 w1 R ρ σ h1 H1 → Qd d h1 → P d H1) : TB fx Z f σ H P :=
  ⟨w, R, ρ, h, fs.fr, o.imp (fun d h1 q w1 H1 le r => k w1 H1 d h1 le (fs.to le r) q) fun _ _ x => zr _ _ _ _ _ fs.s0 x⟩
theorem TL.thenS {P : List V → Hp → Prop} {Qd : List D → Hs → Prop} (zr : StdR Z) (fs : FrS fx R0 w R ρ σ h H) (o : Out (gs ρ h) Qd (Z w R0))
    (k : ∀ w1 v H1 d h1, Wle w w1 → FrS fx R0 w1 R ρ σ h1 H1 → Rels fx w1 d v → Qd d h1 → P v H1) : TL fx Z gs σ H P :=
  ⟨w, R, ρ, h, fs.fr, o.imp (fun d h1 q w1 v H1 le r rel => k w1 v H1 d h1 le (fs.to le r) rel q) fun _ _ x => zr _ _ _ _ _ fs.s0 x⟩
theorem PSd.le {w1 : Wd} (le : Wle w w1) {x : Fl × Env} {h' : Hs} (q : PSd fx E R0 w x h') : PSd fx E R0 w1 x h' := by
  obtain ⟨fl, ρ'⟩ := x
  cases fl with
  | nx => exact fun w' R' σ' H' l => q w' R' σ' H' (le.trans l)
  | bk => exact fun w' R' σ' H' l => q w' R' σ' H' (le.trans l)
  | ct => exact fun w' R' σ' H' l => q w' R' σ' H' (le.trans l)
  | ret d => exact fun w' v H' l => q w' v H' (le.trans l)
theorem zleS (zs : Std Z) {α : Type} {r : Res α} {Qd : α → Hs → Prop} {w1 : Wd} (le : Wle w w1) (o : Out r Qd (Z w R0)) : Out r Qd (Z w1 R0) := o.imp (fun _ _ q => q) fun e h x => zs _ _ _ _ _ le x

/-! ### blocks -/
theorem jss_nil : PSs X [] (TSt fx Z R0 fun ρ => M.ret (.nx, ρ)) := PSs.imp pss_nil fun E σ H ⟨w, R, ρ, h, fs, o⟩ => by
  have o : PSd fx E R0 w (.nx, ρ) h := o
  exact o w R σ H (Wle.refl _) fs
def seqE (s1 s2 : MS) : MS := fun ρ => do
  let (fl, ρ') ← s1 ρ
  match fl with
  | .nx => s2 ρ'
  | .bk => M.ret (.bk, ρ')
  | .ct => M.ret (.ct, ρ')
  | .ret d => M.ret (.ret d, ρ')
theorem jss_cons (zs : Std Z) (h1 : PS X st (TSt fx Z R0 s1)) (h2 : PSs X ss (TSt fx Z R0 s2)) : PSs X (st :: ss) (TSt fx Z R0 (seqE s1 s2)) := by
  refine PSs.imp (pss_cons h1 h2) fun E σ H ⟨w, R, ρ, h, fs, o⟩ => ?_
  refine ⟨w, R, ρ, h, fs, (Out.bnd.mp o).imp (fun x h1 q => ?_) fun _ _ z => z⟩
  obtain ⟨fl, ρ'⟩ := x
  cases fl with
  | nx =>
    intro w' R' σ' H' le fs'
    exact ⟨w', R', ρ', h1, fs', (zleS zs le (show Out (s2 ρ' h1) (PSd fx E R0 w) (Z w R0) from q)).imp (fun _ _ p => p.le le) fun _ _ z => z⟩
  | bk => exact q
  | ct => exact q
  | ret d => exact q
theorem js_expr (zr : StdR Z) (hs : swapsWith e none pos.line X.env = pure false) (ha : PE X e (TD fx Z f)) : PS X (.Expr e pos) (TSt fx Z R0 fun ρ => do let _ ← f ρ; pure (.nx, ρ)) := by
  refine PS.imp (ps_expr ha hs) fun E σ H ⟨w, R, ρ, h, fs, o⟩ => ?_
  refine TD.thenS zr fs (Out.bnd.mp o) fun w1 v H1 d h1 le fs1 r q => ?_
  have q : PSd fx E R0 w (.nx, ρ) h1 := q
  exact q w1 R σ H1 le fs1
theorem js_doc {x : Str} {j : Nat} : PS X (.Expr (.Constant (.str x) j pos) p) (TSt fx Z R0 fun ρ => M.ret (.nx, ρ)) := PS.imp ps_doc fun E σ H ⟨w, R, ρ, h, fs, o⟩ => by
  have o : PSd fx E R0 w (.nx, ρ) h := o
  exact o w R σ H (Wle.refl _) fs
theorem js_ret (zr : StdR Z) (ha : PE X e (TD fx Z f)) : PS X (.Return (some e) pos) (TSt fx Z R0 fun ρ => do let d ← f ρ; pure (.ret d, ρ)) := by
  refine PS.imp (ps_ret ha) fun E σ H ⟨w, R, ρ, h, fs, o⟩ => ?_
  refine TD.thenS zr fs (Out.bnd.mp o) fun w1 v H1 d h1 le fs1 r q => ?_
  have q : PSd fx E R0 w (.ret d, ρ) h1 := q
  exact q w1 v H1 le (fs1.fr.hr.weak fs1.s0) r
theorem js_retN : PS X (.Return none pos) (TSt fx Z R0 fun ρ => M.ret (.ret .non, ρ)) := PS.imp ps_retN fun E σ H ⟨w, R, ρ, h, fs, o⟩ => by
  have o : PSd fx E R0 w (.ret .non, ρ) h := o
  exact o w .non H (Wle.refl _) (fs.fr.hr.weak fs.s0) rfl
theorem js_pass : PS X (.Pass pos) (TSt fx Z R0 fun ρ => M.ret (.nx, ρ)) := PS.imp ps_pass fun E σ H ⟨w, R, ρ, h, fs, o⟩ => by
  have o : PSd fx E R0 w (.nx, ρ) h := o
  exact o w R σ H (Wle.refl _) fs
theorem js_brk : PS X (.Break pos) (TSt fx Z R0 fun ρ => M.ret (.bk, ρ)) := PS.imp ps_break fun E σ H ⟨w, R, ρ, h, fs, o⟩ => by
  have o : PSd fx E R0 w (.bk, ρ) h := o
  exact o w R σ H (Wle.refl _) fs
theorem js_cont : PS X (.Continue pos) (TSt fx Z R0 fun ρ => M.ret (.ct, ρ)) := PS.imp ps_continue fun E σ H ⟨w, R, ρ, h, fs, o⟩ => by
  have o : PSd fx E R0 w (.ct, ρ) h := o
  exact o w R σ H (Wle.refl _) fs
theorem js_if (zs : Std Z) (zr : StdR Z) (hc : PT X e (TB fx Z (tru f))) (ha : PSs X ss (TSt fx Z R0 s1)) (hb : PSs X ss2 (TSt fx Z R0 s2)) :
    PS X (.If e ss ss2 pos) (TSt fx Z R0 fun ρ => do let x ← f ρ; let k ← truth x; if k then s1 ρ else s2 ρ) := by
  refine PS.imp (ps_if hc ha hb) fun E σ H ⟨w, R, ρ, h, fs, o⟩ => ?_
  have o1 : Out (tru f ρ h) (fun k h1 => Out ((if k then s1 ρ else s2 ρ) h1) (PSd fx E R0 w) (Z w R0)) (Z w R0) := tru_out.mpr ((Out.bnd.mp o).imp (fun _ _ q => Out.bnd.mp q) fun _ _ z => z)
  refine TB.thenS zr fs o1 fun w1 H1 k h1 le fs1 q => ?_
  cases k with
  | true => exact iteT ⟨w1, R, ρ, h1, fs1, (zleS zs le q).imp (fun _ _ p => PSd.le le p) fun _ _ z => z⟩
  | false => exact iteF ⟨w1, R, ρ, h1, fs1, (zleS zs le q).imp (fun _ _ p => PSd.le le p) fun _ _ z => z⟩
theorem js_while (zs : Std Z) (zr : StdR Z) (hp : PassesOwn (model X.prog X.w) X.A X.env X.xe) (hc : PT X e (TB fx Z (tru f))) (hb : PSs X ss (TSt fx Z R0 s1)) :
    PS X (.While e ss [] pos) (TSt fx Z R0 (whlM (tru f) s1)) := by
  refine PS.imp (ps_while hp hc hb) fun E σ H ⟨w, R, ρ, h, fs, o⟩ => ?_
  obtain ⟨n, o⟩ : ∃ n, Out (whlN (tru f) s1 n ρ h) (PSd fx E R0 w) (Z w R0) := by
    unfold whlM at o
    by_cases x : ∃ n, (whlN (tru f) s1 n ρ h).isBad = false
    · rw [dif_pos x] at o; exact ⟨_, o⟩
    · rw [dif_neg x] at o; exact o.elim
  refine ⟨fun m σ H => ∃ w1 R ρ h, Wle w w1 ∧ FrS fx R0 w1 R ρ σ h H ∧ Out (whlN (tru f) s1 m ρ h) (PSd fx E R0 w1) (Z w1 R0), ⟨n, w, R, ρ, h, Wle.refl _, fs, o⟩, ?_⟩
  rintro m σ H ⟨w1, R, ρ, h, le1, fs, o⟩
  cases m with
  | zero => exact o.elim
  | succ m =>
    refine TB.thenS zr fs (Out.bnd.mp o) fun w2 H1 k h1 le2 fs2 q => ?_
    cases k with
    | false =>
      refine iteF ?_
      have q : PSd fx E R0 w1 (.nx, ρ) h1 := q
      exact q w2 R σ H1 le2 fs2
    | true =>
      refine iteT ⟨fun σ' H' => ∃ w1 R ρ h, Wle w w1 ∧ FrS fx R0 w1 R ρ σ' h H' ∧ Out (whlN (tru f) s1 m ρ h) (PSd fx E R0 w1) (Z w1 R0), fun σ' H' p => ⟨m, Nat.lt_succ_self _, p⟩, ?_⟩
      refine ⟨w2, R, ρ, h1, fs2, (zleS zs le2 (Out.bnd.mp q)).imp (fun x h2 q2 => ?_) fun _ _ z => z⟩
      obtain ⟨fl, ρ'⟩ := x
      have nxt : Out (whlN (tru f) s1 m ρ' h2) (PSd fx E R0 w1) (Z w1 R0) → ∀ w' R' σ' H', Wle w2 w' → FrS fx R0 w' R' ρ' σ' h2 H' → ∃ w1 R ρ h, Wle w w1 ∧ FrS fx R0 w1 R ρ σ' h H' ∧ Out (whlN (tru f) s1 m ρ h) (PSd fx E R0 w1) (Z w1 R0) :=
        fun q2 w' R' σ' H' le3 fs3 => ⟨w', R', ρ', h2, le1.trans (le2.trans le3), fs3, (zleS zs (le2.trans le3) q2).imp (fun _ _ p => PSd.le (le2.trans le3) p) fun _ _ z => z⟩
      cases fl with
      | nx => exact nxt q2
      | ct => exact nxt q2
      | bk =>
        have q2 : PSd fx E R0 w1 (.nx, ρ') h2 := q2
        exact fun w' R' σ' H' le3 fs3 => q2 w' R' σ' H' (le2.trans le3) fs3
      | ret d =>
        have q2 : PSd fx E R0 w1 (.ret d, ρ') h2 := q2
        exact fun w' v H' le3 => q2 w' v H' (le2.trans le3)
end
end PL
end
section
set_option Elab.async false
set_option linter.all false
set_option maxHeartbeats 1000000
/-! PL14: assignments, for, what is owned, cells' and objects' stores, raise. -/
namespace PL
open PySem PySem.Spec PyProof.Rows L2
section
variable {fx : Fx} {Z : XW} {R0 : Hp} {w : Wd} {R : Hp} {ρ ρ' : Env} {σ : L2.St} {h : Hs} {H : Hp} {Q : VK} {X : Cx} {E : L2.Ends}
variable {e a b c tg : Expr} {es : List Expr} {f g f3 : Env → M D} {fs gs fl : Env → M (List D)} {pos p p2 apos : Pos} {s1 s2 : MS} {st : Stmt} {ss ss2 : List Stmt}
theorem FrS.sets {σ' : L2.St} (f : FrS fx R0 w R ρ σ h H) (s : SR fx w R ρ' σ') (k : OwnK ρ σ ρ' σ') : FrS fx R0 w R ρ' σ' h H := ⟨⟨f.fr.hr, s⟩, f.s0, fun i c a e1 e2 => by
  obtain ⟨k1, k2⟩ := k i c e1
  rw [k2] at e2
  obtain ⟨h1, h2⟩ := f.own i c a k1 e2
  refine ⟨h1, fun j d e3 e4 => ?_⟩
  obtain ⟨k3, k4⟩ := k j d e3
  rw [k4] at e4
  exact h2 j d k3 e4⟩
theorem FrS.set {i : Nat} {d : D} {v : V} (f : FrS fx R0 w R ρ σ h H) (r : Rel fx w d v) : FrS fx R0 w R (ρ.set i (.val d)) (σ.set i (some v)) h H := f.sets (f.fr.sr.set r) OwnK.set
def setE (i : Nat) (f : Env → M D) : MS := fun ρ => do let d ← f ρ; let ρ' ← M.opt (setSl ρ i d); pure (.nx, ρ')
theorem set_read {i : Nat} (zr : StdR Z) (hh : TSt fx Z R0 (setE i f) E σ H) : tAsg (TD fx Z f) (gName i) E σ H := by
  obtain ⟨w, R, ρ, h, fs, o⟩ := hh
  refine TD.thenS zr fs (Out.bnd.mp o) fun w1 v H1 d h1 le fs1 r q => ?_
  obtain ⟨ρ', e1, q⟩ := (Out.bnd.mp q).opt
  obtain ⟨_, rfl⟩ := of_ite (show (if i < ρ.length then some (ρ.set i (.val d)) else none) = some ρ' from e1)
  have q : PSd fx E R0 w (.nx, ρ.set i (.val d)) h1 := q
  exact q w1 R _ H1 le (fs1.set r)
theorem js_set {i : Nat} {x : Str} {pos' : Pos} (zr : StdR Z) (nd : X.N.Nodup) (hi : X.N[i]? = some x) (hx : Loc X.env.scope x) (hf : X.fn x = true ∨ X.env.scope.names.lookup x = some .local) (hs : swapsWith e (some (.Name x pos')) pos.line X.env = pure false) (ha : PE X e (TD fx Z f)) :
    PS X (.Assign [.Name x pos'] e pos) (TSt fx Z R0 (setE i f)) := PS.imp (ps_set nd hi hx ha hs hf) fun E σ H hh => set_read zr hh
def setTE (t : Tg) (f : Env → M D) : MS := fun ρ => do let d ← f ρ; let ρ' ← M.opt (setTg t d ρ); pure (.nx, ρ')
theorem js_setT {t : Tg} {g : TG} (zr : StdR Z) (gk : GOk fx t g) (hg : PG X tg g) (hs : swapsWithSole [tg] e pos.line X.env = pure false) (hw : swappedStores [tg] e X.env = pure none) (h1 : (assignEach [tg] X.env).map (·.2) = [assign tg X.env]) (ha : PE X e (TD fx Z f)) :
    PS X (.Assign [tg] e pos) (TSt fx Z R0 (setTE t f)) := by
  refine PS.imp (ps_asg ha hg hs hw h1) fun E σ H ⟨w, R, ρ, h, fs, o⟩ => ?_
  refine TD.thenS zr fs (Out.bnd.mp o) fun w1 v H1 d h1 le fs1 r q => ?_
  obtain ⟨ρ', e1, q⟩ := (Out.bnd.mp q).opt
  have q : PSd fx E R0 w (.nx, ρ') h1 := q
  exact gk w1 R h1 H1 ρ σ d v ρ' _ fs1.fr.hr fs1.fr.sr r e1 fun σ' sr _ k => q w1 R σ' H1 le (fs1.sets sr k)
def parE (i j : Nat) (f g : Env → M D) : MS := fun ρ => do
  let x ← f ρ
  let y ← g ρ
  let ρ1 ← M.opt (setSl ρ i x)
  let ρ2 ← M.opt (setSl ρ1 j y)
  pure (.nx, ρ2)
theorem js_par {i j : Nat} {x y : Str} {px py pt : Pos} {kt k2 pt2} (zs : Std Z) (zr : StdR Z) (hc : X.calm = true) (nd : X.N.Nodup) (hi : X.N[i]? = some x) (hj : X.N[j]? = some y) (hij : i ≠ j)
    (hx : X.env.scope.names.lookup x = some .local) (hy : X.env.scope.names.lookup y = some .local) (sa : isStar a = false) (sb : isStar b = false) (hw : swappedStores [.Tuple [.Name x px, .Name y py] kt pt] (.Tuple [a, b] k2 pt2) X.env = pure (some [x, y]))
    (ha : PE X a (TD fx Z f)) (hb : PE X b (TD fx Z g)) :
    PS X (.Assign [.Tuple [.Name x px, .Name y py] kt pt] (.Tuple [a, b] k2 pt2) pos) (TSt fx Z R0 (parE i j f g)) := by
  refine PS.imp (ps_par hc nd hi hj hij hx hy (pa_cons ha (pa_cons hb pa_nil (star_ns sb)) (star_ns sa)) hw) fun E σ H ⟨w, R, ρ, h, fs, o⟩ => ?_
  refine TD.thenS zr fs (Out.bnd.mp o) fun w1 v H1 d1 h1 le1 fs1 r1 q1 => ?_
  refine TD.thenS zr fs1 (zleS zs le1 (Out.bnd.mp q1)) fun w2 u H2 d2 h2 le2 fs2 r2 q2 => ?_
  obtain ⟨ρ1, e1, q3⟩ := (Out.bnd.mp q2).opt
  obtain ⟨ρ2, e2, q4⟩ := (Out.bnd.mp q3).opt
  obtain ⟨_, rfl⟩ := of_ite (show (if i < ρ.length then some (ρ.set i (.val d1)) else none) = some ρ1 from e1)
  obtain ⟨_, rfl⟩ := of_ite (show (if j < (ρ.set i (.val d1)).length then some ((ρ.set i (.val d1)).set j (.val d2)) else none) = some ρ2 from e2)
  have q : PSd fx E R0 w (.nx, (ρ.set i (.val d1)).set j (.val d2)) h2 := q4
  exact ⟨v, u, rfl, q w2 R _ H2 (le1.trans le2) ((fs2.set (Rel.mono le2 _ _ r1)).set r2)⟩

/-! ### for -/
def forE (t : Tg) (fi : Env → M (List D)) (b : MS) : MS := fun ρ => do let xs ← fi ρ; forM (setTg t) b xs ρ
theorem js_for {t : Tg} {g : TG} (zs : Std Z) (zr : StdR Z) (hp : PassesOwn (model X.prog X.w) X.A X.env X.xe) (hc : X.calm = true) (gk : GOk fx t g) (hi : PI X tg e (TW fx Z fs)) (hg : PG X tg g) (hb : PSs X ss (TSt fx Z R0 s1)) (hs : ∀ x, foldedSetIterable e X.env x = pure x) :
    PS X (.For tg e ss [] pos) (TSt fx Z R0 (forE t fs s1)) := by
  refine PS.imp (ps_for hp hc hi hg hb hs) fun E σ H ⟨w, R, ρ, h, fs, o⟩ => ?_
  refine ⟨w, R, ρ, h, fs.fr, (Out.bnd.mp o).imp (fun xs h1 o1 w1 J H1 le1 hr1 wk => ?_) fun _ _ x => zr _ _ _ _ _ fs.s0 x⟩
  refine ⟨fun i m σ H => m = xs.length - i ∧ i ≤ xs.length ∧ ∃ w2 R ρ h, Wle w1 w2 ∧ FrS fx R0 w2 R ρ σ h H ∧ Out (forM (setTg t) s1 (xs.drop i) ρ h) (PSd fx E R0 w2) (Z w2 R0),
    ⟨xs.length, by simp, Nat.zero_le _, w1, R, ρ, h1, Wle.refl _, fs.to le1 hr1, (zleS zs le1 (show Out (forM (setTg t) s1 xs ρ h1) (PSd fx E R0 w) (Z w R0) from o1)).imp (fun _ _ p => PSd.le le1 p) fun _ _ z => z⟩, ?_⟩
  rintro i m σ H ⟨rfl, hil, w2, R, ρ, h, le2, fs, o⟩
  obtain ⟨wk1, wk2⟩ := wk i w2 R h H le2 fs.fr.hr
  by_cases hlt : i < xs.length
  · have hx : xs[i]? = some xs[i] := List.getElem?_eq_getElem hlt
    obtain ⟨g1, g2⟩ := wk1 _ hx
    rw [List.drop_eq_getElem_cons hlt] at o
    refine .inr ⟨g1, fun σ' H' => ∃ w2 R ρ h, Wle w1 w2 ∧ FrS fx R0 w2 R ρ σ' h H' ∧ Out (forM (setTg t) s1 (xs.drop (i + 1)) ρ h) (PSd fx E R0 w2) (Z w2 R0), fun σ' H' p => ⟨xs.length - (i + 1), by omega, rfl, hlt, p⟩, fun x H2 y => ?_⟩
    obtain ⟨w3, le3, hr3, r3⟩ := g2 x H2 y
    have fs3 := fs.to le3 hr3
    obtain ⟨ρ', e1, o2⟩ := (Out.bnd.mp (show Out ((do let ρ' ← M.opt (setTg t xs[i] ρ); let (fl, ρ'') ← s1 ρ'; match fl with | .nx => forM (setTg t) s1 (xs.drop (i + 1)) ρ'' | .ct => forM (setTg t) s1 (xs.drop (i + 1)) ρ'' | .bk => M.ret (.nx, ρ'') | .ret d => M.ret (.ret d, ρ'')) h) (PSd fx E R0 w2) (Z w2 R0) from o)).opt
    refine gk w3 R h H2 ρ σ xs[i] x ρ' _ hr3 fs3.fr.sr r3 e1 fun σ' sr _ k => ?_
    refine ⟨w3, R, ρ', h, fs3.sets sr k, (zleS zs le3 (Out.bnd.mp o2)).imp (fun x h2 q2 => ?_) fun _ _ z => z⟩
    obtain ⟨fl, ρ2⟩ := x
    have nxt : Out (forM (setTg t) s1 (xs.drop (i + 1)) ρ2 h2) (PSd fx E R0 w2) (Z w2 R0) → ∀ w' R' σ' H', Wle w3 w' → FrS fx R0 w' R' ρ2 σ' h2 H' → ∃ w2 R ρ h, Wle w1 w2 ∧ FrS fx R0 w2 R ρ σ' h H' ∧ Out (forM (setTg t) s1 (xs.drop (i + 1)) ρ h) (PSd fx E R0 w2) (Z w2 R0) :=
      fun q2 w' R' σ' H' le4 fs4 => ⟨w', R', ρ2, h2, le2.trans (le3.trans le4), fs4, (zleS zs (le3.trans le4) q2).imp (fun _ _ p => PSd.le (le3.trans le4) p) fun _ _ z => z⟩
    cases fl with
    | nx => exact nxt q2
    | ct => exact nxt q2
    | bk =>
      have q2 : PSd fx E R0 w2 (.nx, ρ2) h2 := q2
      exact fun w' R' σ' H' le4 fs4 => q2 w' R' σ' H' (le3.trans le4) fs4
    | ret d =>
      have q2 : PSd fx E R0 w2 (.ret d, ρ2) h2 := q2
      exact fun w' v H' le4 => q2 w' v H' (le3.trans le4)
  · have e : i = xs.length := by omega
    subst e
    rw [List.drop_length] at o
    have o : PSd fx E R0 w2 (.nx, ρ) h := o
    exact .inl ⟨wk2 (Nat.le_refl _), o w2 R σ H (Wle.refl _) fs⟩

/-! ### what is owned -/
def ownE (i : Nat) (fl : Env → M (List D)) : MS := fun ρ => do let ds ← fl ρ; let ρ' ← M.opt (setOwn ρ i (.lst ds)); pure (.nx, ρ')
/-- a new object is owned at the slot i -/
theorem FrS.newOwn {i : Nat} {p : Addr} {o : HO} {cc : HC} {w1 : Wd} {h1 : Hs} {H1 : Hp} (f : FrS fx R0 w R ρ σ h H) (le : Wle w w1) (hn : R p = none) (hr : HR fx w1 (upd R p o) h1 H1) (k : CRel fx w1 cc o) (hi : i < ρ.length) :
    FrS fx R0 w1 (upd R p o) (ρ.set i (.own cc)) (σ.set i (some (.ref p))) h1 H1 := by
  have no : ∀ (j : Nat) (d : HC), ρ[j]? = some (Sl.own d) → σ[j]? = some (some (V.ref p)) → False := fun j d e1 e2 => by
    obtain ⟨a, u, e3, e4, _⟩ := f.fr.sr.at_ j _ e1
    rw [e2] at e3; cases e3
    rw [hn] at e4; cases e4
  have sr0 := f.fr.sr.mono le
  refine ⟨⟨hr, by rw [List.length_set, List.length_set]; exact sr0.len, fun j s e => ?_⟩, fun b u e => ?_, fun j d b e1 e2 => ?_⟩
  · by_cases hj : i = j
    · subst hj
      rw [List.getElem?_set_self hi] at e; cases e
      rw [List.getElem?_set_self (by rw [← sr0.len]; exact hi)]
      exact ⟨p, o, rfl, upd_same, k⟩
    · rw [List.getElem?_set_ne hj] at e ⊢
      have q := sr0.at_ j s e
      cases s with
      | non => trivial
      | val d => exact q
      | fn => exact q
      | exn _ => exact q
      | own c' =>
        obtain ⟨a, u, e1, e2, e3⟩ := q
        exact ⟨a, u, e1, by rw [upd_ne (ne_of_none e2 hn)]; exact e2, e3⟩
  · have e0 := f.s0 b u e
    rw [upd_ne (ne_of_none e0 hn)]; exact e0
  · by_cases hj : i = j
    · subst hj
      rw [List.getElem?_set_self (by rw [← f.fr.sr.len]; exact hi)] at e2
      cases e2
      refine ⟨f.s0.free hn, fun j' d' e3 e4 => ?_⟩
      by_cases hj' : i = j'
      · exact hj'.symm
      · rw [List.getElem?_set_ne hj'] at e3 e4
        exact (no j' d' e3 e4).elim
    · rw [List.getElem?_set_ne hj] at e1 e2
      obtain ⟨h1, h2⟩ := f.own j d b e1 e2
      refine ⟨h1, fun j' d' e3 e4 => ?_⟩
      by_cases hj' : i = j'
      · subst hj'
        rw [List.getElem?_set_self (by rw [← f.fr.sr.len]; exact hi)] at e4
        cases e4
        exact (no j d e1 e2).elim
      · rw [List.getElem?_set_ne hj'] at e3 e4
        exact h2 j' d' e3 e4
theorem own_read {i : Nat} (zr : StdR Z) (hh : TSt fx Z R0 (ownE i fl) E σ H) : tAsg (TC fx Z fl) (gName i) E σ H := by
  obtain ⟨w, R, ρ, h, fs, o⟩ := hh
  refine ⟨w, R, ρ, h, fs.fr, (Out.bnd.mp o).imp (fun ds h1 q => ?_) fun _ _ x => zr _ _ _ _ _ fs.s0 x⟩
  obtain ⟨ρ', e1, q⟩ := (Out.bnd.mp q).opt
  obtain ⟨hi, rfl⟩ := of_ite (show (if i < ρ.length then some (ρ.set i (.own (.lst ds))) else none) = some ρ' from e1)
  have q : PSd fx E R0 w (.nx, ρ.set i (.own (.lst ds))) h1 := q
  intro w' p vs H' le hn hr rs
  exact q w' _ _ H' le (fs.newOwn le hn hr ⟨vs, rfl, rs⟩ hi)
theorem js_own {i : Nat} {x : Str} {pos' : Pos} (zr : StdR Z) (nd : X.N.Nodup) (hi : X.N[i]? = some x) (hx : Loc X.env.scope x) (hf : X.fn x = true ∨ X.env.scope.names.lookup x = some .local) (hs : swapsWith e (some (.Name x pos')) pos.line X.env = pure false) (ha : PE X e (TC fx Z fl)) :
    PS X (.Assign [.Name x pos'] e pos) (TSt fx Z R0 (ownE i fl)) := PS.imp (ps_set nd hi hx ha hs hf) fun E σ H hh => own_read zr hh
/-- frozen from here on: no code -/
theorem fzs_ok {i : Nat} (f : FrS fx R0 w R ρ σ h H) (e : fzsP ρ i = some ρ') : ∃ w' R', Wle w w' ∧ FrS fx R0 w' R' ρ' σ h H := by
  have key : ∀ (cc : HC) (d : D), ρ[i]? = some (Sl.own cc) → ρ' = ρ.set i (.val d) → (∀ w' a o, w'.F a = some o → CRel fx w' cc o → Rel fx w' d (.ref a)) → ∃ w' R', Wle w w' ∧ FrS fx R0 w' R' ρ' σ h H := by
    intro cc d e0 e1 k
    obtain ⟨a, u, e2, e3, e4⟩ := f.fr.sr.at_ i _ e0
    obtain ⟨r1, le1⟩ := f.fr.hr.frz e3
    obtain ⟨h1, h2⟩ := f.own i cc a e0 e2
    have hl : i < ρ.length := (List.getElem?_eq_some_iff.mp e0).1
    subst e1
    have sr1 := f.fr.sr.mono le1
    refine ⟨_, _, le1, ⟨⟨r1, by rw [List.length_set]; exact sr1.len, fun j s e => ?_⟩, fun b o e => ?_, fun j d' b e5 e6 => ?_⟩⟩
    · by_cases hj : i = j
      · subst hj
        rw [List.getElem?_set_self hl] at e; cases e
        exact ⟨.ref a, e2, k _ a u upd_same (e4.mono le1)⟩
      · rw [List.getElem?_set_ne hj] at e
        have q := sr1.at_ j s e
        cases s with
        | non => trivial
        | val d => exact q
        | fn => exact q
        | exn _ => exact q
        | own c' =>
          obtain ⟨b, u', e5, e6, e7⟩ := q
          refine ⟨b, u', e5, ?_, e7⟩
          rw [del_ne fun z => ?_]
          · exact e6
          · subst z; exact hj (h2 j c' e e5).symm
    · have e0' := f.s0 b o e
      rw [del_ne fun z => ?_]
      · exact e0'
      · subst z; rw [h1] at e; cases e
    · by_cases hj : i = j
      · subst hj
        rw [List.getElem?_set_self hl] at e5; cases e5
      · rw [List.getElem?_set_ne hj] at e5
        obtain ⟨g1, g2⟩ := f.own j d' b e5 e6
        refine ⟨g1, fun j' d'' e7 e8 => ?_⟩
        by_cases hj' : i = j'
        · subst hj'
          rw [List.getElem?_set_self hl] at e7; cases e7
        · rw [List.getElem?_set_ne hj'] at e7
          exact g2 j' d'' e7 e8
  unfold fzsP at e
  cases q : ρ[i]? with
  | none => rw [q] at e; cases e
  | some s =>
    rw [q] at e
    cases s with
    | non => cases e
    | val d => cases e; exact ⟨w, R, Wle.refl _, f⟩
    | fn => cases e
    | exn _ => cases e
    | own cc =>
      cases cc with
      | lst ds =>
        cases e
        exact key _ _ q rfl fun w' a o e1 ⟨vs, e2, rs⟩ => ⟨a, vs, rfl, by rw [e1, e2], rs⟩
      | dk ks vs =>
        cases e
        exact key _ _ q rfl fun w' a o e1 ⟨us, e2, l, rs⟩ => ⟨a, us, rfl, by rw [e1, e2], l, rs⟩
      | ins _ _ _ => cases e
theorem jss_fz {i : Nat} (zs : Std Z) (hh : PSs X ss (TSt fx Z R0 s1)) : PSs X ss (TSt fx Z R0 (seqE (fun ρ => do let ρ' ← M.opt (fzsP ρ i); pure (.nx, ρ')) s1)) := by
  refine PSs.imp hh fun E σ H ⟨w, R, ρ, h, fs, o⟩ => ?_
  obtain ⟨ρ', e, o⟩ := (Out.bnd.mp (Out.bnd.mp o)).opt
  obtain ⟨w', R', le, fs'⟩ := fzs_ok fs e
  have o : Out (s1 ρ' h) (PSd fx E R0 w) (Z w R0) := o
  exact ⟨w', R', ρ', h, fs', (zleS zs le o).imp (fun _ _ p => PSd.le le p) fun _ _ z => z⟩
/-- what is owned at the slot i -/
theorem FrS.ownAt {i : Nat} {cc : HC} (f : FrS fx R0 w R ρ σ h H) (e : ρ[i]? = some (.own cc)) : ∃ a o, σ[i]? = some (some (.ref a)) ∧ R a = some o ∧ H a = some o ∧ CRel fx w cc o := by
  obtain ⟨a, u, e2, e3, e4⟩ := f.fr.sr.at_ i _ e
  exact ⟨a, u, e2, e3, f.fr.hr.sR _ _ e3, e4⟩
/-- what is owned is written -/
theorem FrS.putOwn {i : Nat} {a : Addr} {o u : HO} {cc c' : HC} (f : FrS fx R0 w R ρ σ h H) (e : ρ[i]? = some (.own cc)) (e2 : σ[i]? = some (some (.ref a))) (e3 : R a = some u) (k : CRel fx w c' o) : FrS fx R0 w (upd R a o) (ρ.set i (.own c')) σ h (upd H a o) := by
  have hl : i < ρ.length := (List.getElem?_eq_some_iff.mp e).1
  obtain ⟨h1, h2⟩ := f.own i cc a e e2
  refine ⟨⟨f.fr.hr.putR e3 k.noT, by rw [List.length_set]; exact f.fr.sr.len, fun j s e4 => ?_⟩, fun b x e4 => ?_, fun j d' b e5 e6 => ?_⟩
  · by_cases hj : i = j
    · subst hj
      rw [List.getElem?_set_self hl] at e4; cases e4
      exact ⟨a, o, e2, upd_same, k⟩
    · rw [List.getElem?_set_ne hj] at e4
      have q := f.fr.sr.at_ j s e4
      cases s with
      | non => trivial
      | val d => exact q
      | fn => exact q
      | exn _ => exact q
      | own c2 =>
        obtain ⟨b, u', e5, e6, e7⟩ := q
        refine ⟨b, u', e5, ?_, e7⟩
        rw [upd_ne fun z => ?_]
        · exact e6
        · subst z; exact hj (h2 j c2 e4 e5).symm
  · have e0 := f.s0 b x e4
    rw [upd_ne fun z => ?_]
    · exact e0
    · subst z; rw [h1] at e4; cases e4
  · by_cases hj : i = j
    · subst hj
      rw [e2] at e6; cases e6
      refine ⟨h1, fun j' d'' e7 e8 => ?_⟩
      by_cases hj' : i = j'
      · exact hj'.symm
      · rw [List.getElem?_set_ne hj'] at e7
        exact h2 j' d'' e7 e8
    · rw [List.getElem?_set_ne hj] at e5
      obtain ⟨g1, g2⟩ := f.own j d' b e5 e6
      refine ⟨g1, fun j' d'' e7 e8 => ?_⟩
      by_cases hj' : i = j'
      · subst hj'
        exact g2 i cc e e8
      · rw [List.getElem?_set_ne hj'] at e7
        exact g2 j' d'' e7 e8
def oappE (i : Nat) (f : Env → M D) : MS := fun ρ => do
  let c ← getOwn ρ i
  let ds ← listC c
  let d ← f ρ
  if ds.length < line then do let ρ' ← M.opt (setOwn ρ i (.lst (ds ++ [d]))); pure (.nx, ρ') else M.fail
theorem getOwn_out {i : Nat} {P : HC → Hs → Prop} {Z' : Exn → Hs → Prop} (o : Out (getOwn ρ i h) P Z') : ∃ cc, ρ[i]? = some (.own cc) ∧ P cc h := by
  unfold getOwn at o
  cases e : ρ[i]? with
  | none => rw [e] at o; exact o.elim
  | some s =>
    rw [e] at o
    cases s with
    | non => exact o.elim
    | val d => exact o.elim
    | fn => exact o.elim
    | exn _ => exact o.elim
    | own cc => exact ⟨cc, rfl, o⟩
end
end PL
end
section
set_option Elab.async false
set_option linter.all false
set_option maxHeartbeats 1000000
/-! PL15: what is owned: its methods, items, stores; cells' and objects' stores; raise. -/
namespace PL
open PySem PySem.Spec PyProof.Rows L2
section
variable {fx : Fx} {Z : XW} {R0 : Hp} {w : Wd} {R : Hp} {ρ ρ' : Env} {σ : L2.St} {h : Hs} {H : Hp} {Q : VK} {X : Cx} {E : L2.Ends}
variable {e a b c tg o : Expr} {es : List Expr} {f g f3 : Env → M D} {fs gs fl : Env → M (List D)} {pos p p2 apos tpos : Pos} {s1 s2 : MS} {st : Stmt} {ss ss2 : List Stmt}
theorem out_listC {cc : HC} {P : List D → Hs → Prop} {Z' : Exn → Hs → Prop} (o : Out (listC cc h) P Z') : ∃ ds, cc = .lst ds ∧ P ds h := by
  cases cc with
  | lst ds => exact ⟨ds, rfl, o⟩
  | dk _ _ => exact o.elim
  | ins _ _ _ => exact o.elim
theorem set_same {α : Type} : ∀ (l : List α) (i : Nat) (x : α), l[i]? = some x → l.set i x = l
  | [], _, _, h => by cases h
  | y :: l, 0, x, h => by cases h; rfl
  | y :: l, i + 1, x, h => by rw [List.set_cons_succ, set_same l i x (by simpa using h)]
theorem js_oapp {i : Nat} {nm : Expr} (zs : Std Z) (zr : StdR Z) (hK : X.K = fx.K) (hn : nsup nm = true) (hs : isStar b = false) (hline : (apos.endLine == pos.line) = true) (hx : PE X nm (tVar i)) (hb : PE X b (TD fx Z f)) :
    PS X (.Expr (.Call (.Attribute nm "append" apos) [b] [] pos) p) (TSt fx Z R0 (oappE i f)) := by
  refine PS.imp (ps_expr (pe_bm PySem.F.plainAttrs_list PySem.F.slot_list_append PySem.F.type_list_append mt_append hx (pa_cons hb pa_nil (star_ns hs)) (abase hn) (bm_ok hs) hline (star_ns hs)) rfl) fun E σ H ⟨w, R, ρ, h, fs, o⟩ => ?_
  obtain ⟨cc, e1, o1⟩ := getOwn_out (Out.bnd.mp o)
  obtain ⟨ds, rfl, o2⟩ := out_listC (Out.bnd.mp o1)
  obtain ⟨l, u, g1, g2, g3, vs, rfl, rs⟩ := fs.ownAt e1
  refine ⟨.ref l, g1, .inl ⟨rfl, vs, by rw [hK]; exact .inl (.inl g3)⟩, ?_⟩
  refine TD.thenS zr fs (Out.bnd.mp o2) fun w1 y H1 d h1 le fs1 r q => ?_
  obtain ⟨l', u', k1, k2, k3, vs', rfl, rs'⟩ := fs1.ownAt e1
  rw [g1] at k1; cases k1
  by_cases hz : ds.length < line
  · rw [if_pos hz] at q
    obtain ⟨ρ', e2, q⟩ := (Out.bnd.mp q).opt
    obtain ⟨_, rfl⟩ := of_ite (show (if i < ρ.length then some (ρ.set i (.own (.lst (ds ++ [d])))) else none) = some ρ' from e2)
    have q : PSd fx E R0 w (.nx, ρ.set i (.own (.lst (ds ++ [d])))) h1 := q
    refine ⟨l, vs', y, rfl, rfl, k3, by rw [← rs'.length, ← line_eq]; exact hz, ?_⟩
    exact q w1 _ σ _ le (fs1.putOwn e1 g1 k2 ⟨_, rfl, rs'.app (Rels.one r)⟩)
  · rw [if_neg hz] at q; exact q.elim
/-! ### stores: o[a] = v -/
def rSetA : TSet := fun o i v H Q => rSetL o i v H Q ∨ rSetD o i v H Q
theorem set_any (hu : X.A.units + 1 < cLine) : PSet X rSetA := by
  intro pins s σ H o i v ov iv u Q I r1 r2 r3 q
  rcases q with q | q
  · exact set_list pins s σ H o i v ov iv u Q I r1 r2 r3 q
  · exact set_dict hu pins s σ H o i v ov iv u Q I r1 r2 r3 q
theorem ixD_lt {n : Nat} {i : Int} {j : Nat} (e : ixD n i = some j) : j < n := by
  unfold ixD at e
  split at e
  · obtain ⟨h, rfl⟩ := of_ite e; omega
  · obtain ⟨h, rfl⟩ := of_ite e; omega
theorem zip_put {k : DKey} : ∀ {ks : List DKey} {ds : List D} {vs : List V} {d : D} {v : V}, ks.length = ds.length → Rels fx w ds vs → Rel fx w d v →
    putK ((ks.map kD).zip vs) (kD k) v = ((putDk k ks).map kD).zip (if k ∈ ks then (ks.zip vs).map (fun p => if p.1 = k then v else p.2) else vs ++ [v]) ∧
    (putDk k ks).length = (putDv k d ks ds).length ∧ Rels fx w (putDv k d ks ds) (if k ∈ ks then (ks.zip vs).map (fun p => if p.1 = k then v else p.2) else vs ++ [v]) := by
  intro ks ds vs d v l rs rd
  have lv : ks.length = vs.length := l.trans rs.length
  have any_eq : ∀ (ks : List DKey) (vs : List V), ks.length = vs.length → (((ks.map kD).zip vs).any fun kv => decide (kv.1 = kD k)) = decide (k ∈ ks) := by
    intro ks
    induction ks with
    | nil => intro vs _; cases vs <;> rfl
    | cons j ks ih =>
      intro vs lv
      cases vs with
      | nil => cases lv
      | cons u vs =>
        rw [List.map_cons, List.zip_cons_cons, List.any_cons, ih vs (by simpa using lv)]
        by_cases e : j = k
        · subst e; simp
        · have n1 : ¬ kD j = kD k := fun z => e (kD_inj z)
          have n2 : ¬ k = j := fun z => e z.symm
          simp [n1, n2]
  unfold putK putDk putDv
  rw [any_eq ks vs lv]
  by_cases hk : k ∈ ks
  · simp only [hk, decide_true, if_true]
    have m1 : ∀ (ks : List DKey) (vs : List V), ks.length = vs.length → ((ks.map kD).zip vs).map (fun kv => if kv.1 = kD k then (kv.1, v) else kv) = (ks.map kD).zip ((ks.zip vs).map (fun p => if p.1 = k then v else p.2)) := by
      intro ks
      induction ks with
      | nil => intro vs _; cases vs <;> rfl
      | cons j ks ih =>
        intro vs lv
        cases vs with
        | nil => cases lv
        | cons u vs =>
          rw [List.map_cons, List.zip_cons_cons, List.map_cons, ih vs (by simpa using lv), List.zip_cons_cons, List.map_cons, List.zip_cons_cons]
          by_cases e : j = k
          · subst e; simp
          · have n1 : ¬ kD j = kD k := fun z => e (kD_inj z)
            simp [n1, e]
    have m2 : ∀ (ks : List DKey) (ds : List D) (vs : List V), ks.length = ds.length → Rels fx w ds vs → Rels fx w ((ks.zip ds).map (fun p => if p.1 = k then d else p.2)) ((ks.zip vs).map (fun p => if p.1 = k then v else p.2)) := by
      intro ks
      induction ks with
      | nil => intro ds vs _ _; exact rfl
      | cons j ks ih =>
        intro ds vs l rs
        cases ds with
        | nil => cases l
        | cons x ds =>
          obtain ⟨u, us, rfl, r1, r2⟩ := rs
          rw [List.zip_cons_cons, List.zip_cons_cons, List.map_cons, List.map_cons]
          refine ⟨_, _, rfl, ?_, ih ds us (by simpa using l) r2⟩
          by_cases e : j = k
          · simp only [e, if_true]; exact rd
          · simp only [e, if_false]; exact r1
    exact ⟨m1 ks vs lv, by rw [List.length_map, List.length_zip, ← l, Nat.min_self], m2 ks ds vs l rs⟩
  · simp only [hk, decide_false, Bool.false_eq_true, if_false]
    refine ⟨?_, by simp [l], Rels.app rs (Rels.one rd)⟩
    rw [List.map_append, List.map_cons, List.map_nil, List.zip_append (by rw [List.length_map]; exact lv)]
    rfl
/-- a store, where the object stands -/
theorem setC_ok {cc c' : HC} {d1 d2 : D} {y v : V} {l : Addr} {u : HO} (r1 : Rel fx w d1 y) (r2 : Rel fx w d2 v) (k : CRel fx w cc u) (e : H l = some u) (es : setC cc d1 d2 = some c') : ∃ u', CRel fx w c' u' ∧ ∀ (P : Hp → Prop), P (upd H l u') → rSetA (.ref l) y v H P := by
  cases cc with
  | lst ds =>
    obtain ⟨vs, rfl, rs⟩ := k
    cases d1 with
    | int i =>
      cases r1
      have es : (ixD ds.length i).map (fun j => HC.lst (ds.set j d2)) = some c' := es
      cases q : ixD ds.length i with
      | none => rw [q] at es; cases es
      | some j =>
        rw [q] at es; cases es
        refine ⟨.lst (vs.set j v), ⟨_, rfl, Rels.set (i := j) r2 j rs⟩, fun P hp => .inl ⟨l, vs, i, j, rfl, rfl, e, by rw [ixD_eq, ← rs.length]; exact q, hp⟩⟩
    | _ => cases es
  | dk ks ds =>
    obtain ⟨vs, rfl, ln, rs⟩ := k
    have es : (keyD d1).bind (fun k => if ks.length < line then some (HC.dk (putDk k ks) (putDv k d2 ks ds)) else none) = some c' := by
      cases d1 <;> exact es
    cases q : keyD d1 with
    | none => rw [q] at es; cases es
    | some kk =>
      rw [q] at es
      obtain ⟨hz, rfl⟩ := of_ite (show (if ks.length < line then some (HC.dk (putDk kk ks) (putDv kk d2 ks ds)) else none) = some c' from es)
      obtain ⟨z1, z2, z3⟩ := zip_put (k := kk) (d := d2) (v := v) ln rs r2
      refine ⟨_, ⟨_, rfl, z2, z3⟩, fun P hp => .inr ⟨l, _, rfl, .inl ⟨_, kD kk, e, keyD_v r1 q, by rw [zip_len ln rs, ← line_eq]; exact hz, rfl⟩, ?_⟩⟩
      rw [z1]
      exact hp
  | ins _ _ _ => cases es
def osetE (i : Nat) (f g : Env → M D) : MS := fun ρ => do
  let v ← g ρ
  let c ← getOwn ρ i
  let k ← f ρ
  let c' ← M.opt (setC c k v)
  let ρ' ← M.opt (setOwn ρ i c')
  pure (.nx, ρ')
theorem js_oset {i : Nat} {nm : Expr} (zs : Std Z) (zr : StdR Z) (hu : X.A.units + 1 < cLine) (hs : swapsWithSole [.Subscript nm a tpos] b pos.line X.env = pure false) (hw : swappedStores [.Subscript nm a tpos] b X.env = pure none) (h1 : (assignEach [.Subscript nm a tpos] X.env).map (·.2) = [assign (.Subscript nm a tpos) X.env])
    (hx : PE X nm (tVar i)) (ha : PE X a (TD fx Z f)) (hb : PE X b (TD fx Z g))
    (has : ∀ v, assign (.Subscript nm a tpos) X.env v = (do
      let ov ← holding [v] (eval nm X.env)
      let iv ← holding [v, ov] (eval a X.env)
      standAt tpos
      holding [v, ov, iv] (setItem ov iv v)
      release [v, ov, iv] [])) :
    PS X (.Assign [.Subscript nm a tpos] b pos) (TSt fx Z R0 (osetE i f g)) := by
  refine PS.imp (ps_asg hb (pg_sub hx ha (set_any hu) has) hs hw h1) fun E σ H ⟨w, R, ρ, h, fs, o⟩ => ?_
  refine TD.thenS zr fs (Out.bnd.mp o) fun w1 y H1 d1 h1 le1 fs1 r1 q1 => ?_
  obtain ⟨cc, e1, q2⟩ := getOwn_out (Out.bnd.mp q1)
  obtain ⟨l, u, g1, g2, g3, k0⟩ := fs1.ownAt e1
  refine ⟨.ref l, g1, ?_⟩
  refine TD.thenS zr fs1 (zleS zs le1 (Out.bnd.mp q2)) fun w2 x H2 d2 h2 le2 fs2 r2 q3 => ?_
  obtain ⟨c', e2, q4⟩ := (Out.bnd.mp q3).opt
  obtain ⟨ρ', e3, q5⟩ := (Out.bnd.mp q4).opt
  obtain ⟨l', u', j1, j2, j3, k1⟩ := fs2.ownAt e1
  rw [g1] at j1; cases j1
  obtain ⟨_, rfl⟩ := of_ite (show (if i < ρ.length then some (ρ.set i (.own c')) else none) = some ρ' from e3)
  obtain ⟨u2, k2, k3⟩ := setC_ok r2 (Rel.mono le2 _ _ r1) k1 j3 e2
  have q5 : PSd fx E R0 w (.nx, ρ.set i (.own c')) h2 := q5
  exact k3 _ (q5 w2 _ σ _ (le1.trans le2) (fs2.putOwn e1 g1 j2 k2))
def hsetE (fo fa fv : Env → M D) : MS := fun ρ => do
  let v ← fv ρ
  let x ← fo ρ
  let y ← fa ρ
  hsetM x y v
  pure (.nx, ρ)
theorem js_hset {fo : Env → M D} (zs : Std Z) (zr : StdR Z) (hu : X.A.units + 1 < cLine) (hs : swapsWithSole [.Subscript o a tpos] b pos.line X.env = pure false) (hw : swappedStores [.Subscript o a tpos] b X.env = pure none) (h1 : (assignEach [.Subscript o a tpos] X.env).map (·.2) = [assign (.Subscript o a tpos) X.env])
    (ho : PE X o (TD fx Z fo)) (ha : PE X a (TD fx Z f)) (hb : PE X b (TD fx Z g))
    (has : ∀ v, assign (.Subscript o a tpos) X.env v = (do
      let ov ← holding [v] (eval o X.env)
      let iv ← holding [v, ov] (eval a X.env)
      standAt tpos
      holding [v, ov, iv] (setItem ov iv v)
      release [v, ov, iv] [])) :
    PS X (.Assign [.Subscript o a tpos] b pos) (TSt fx Z R0 (hsetE fo f g)) := by
  refine PS.imp (ps_asg hb (pg_sub ho ha (set_any hu) has) hs hw h1) fun E σ H ⟨w, R, ρ, h, fs, o⟩ => ?_
  refine TD.thenS zr fs (Out.bnd.mp o) fun w1 v H1 d1 h1 le1 fs1 r1 q1 => ?_
  refine TD.thenS zr fs1 (zleS zs le1 (Out.bnd.mp q1)) fun w2 x H2 d2 h2 le2 fs2 r2 q2 => ?_
  refine TD.thenS zr fs2 (zleS zs (le1.trans le2) (Out.bnd.mp q2)) fun w3 y H3 d3 h3 le3 fs3 r3 q3 => ?_
  have q3 := Out.bnd.mp q3
  obtain ⟨n, l, vs, ds, rfl, rfl, e3, e5, e4, rs, q4⟩ := lstM_ok fs3.fr.hr (Rel.mono le3 _ _ r2) (Out.bnd.mp (show Out ((do let (n, ds) ← lstM d2; let c' ← M.opt (setC (.lst ds) d3 d1); putAt n c') h3) _ _ from q3))
  obtain ⟨c', e6, q5⟩ := (Out.bnd.mp q4).opt
  obtain ⟨_, q6⟩ := q5.putAt
  obtain ⟨u2, k2, k3⟩ := setC_ok (cc := .lst ds) r3 (Rel.mono (le2.trans le3) _ _ r1) ⟨vs, rfl, rs⟩ e4 e6
  have q6 : PSd fx E R0 w (.nx, ρ) (h3.put n c') := q6
  refine k3 _ (q6 w3 R σ _ ((le1.trans le2).trans le3) ⟨⟨fs3.fr.hr.put e5 e3 k2, fs3.fr.sr⟩, fs3.s0, fs3.own⟩)
/-- {} -/
def owdE (i : Nat) : MS := fun ρ => do let ρ' ← M.opt (setOwn ρ i (.dk [] [])); pure (.nx, ρ')
theorem js_owd {i : Nat} {x : Str} {pos' : Pos} (nd : X.N.Nodup) (hi : X.N[i]? = some x) (hx : Loc X.env.scope x) (hf : X.fn x = true ∨ X.env.scope.names.lookup x = some .local) :
    PS X (.Assign [.Name x pos'] (.Dict [] [] p2) pos) (TSt fx Z R0 (owdE i)) := by
  refine PS.imp (ps_set nd hi hx pe_dnewK rfl hf) fun E σ H ⟨w, R, ρ, h, fs, o⟩ => ?_
  obtain ⟨ρ', e1, q⟩ := (Out.bnd.mp o).opt
  obtain ⟨hi', rfl⟩ := of_ite (show (if i < ρ.length then some (ρ.set i (.own (.dk [] []))) else none) = some ρ' from e1)
  have q : PSd fx E R0 w (.nx, ρ.set i (.own (.dk [] []))) h := q
  intro d hd
  exact q w _ _ _ (Wle.refl _) (fs.newOwn (cc := .dk [] []) (o := .dK []) (Wle.refl _) (fs.fr.hr.none hd).2.1 (fs.fr.hr.layR hd) ⟨[], rfl, rfl, rfl⟩ hi')
theorem je_d0 : PE X (.Dict [] [] p2) (TD fx Z fun _ => M.ret (.dk [] [])) := by
  refine PE.imp pe_dnewK fun σ H Q ⟨w, R, ρ, h, fr, o⟩ => ?_
  have o : PD fx Q w R (.dk [] []) h := o
  intro d hd
  exact o _ _ _ (Wd.le_add (fr.hr.none hd).1) (fr.hr.lay hd) ⟨d, [], rfl, upd_same, rfl, rfl⟩
/-! ### what is owned, read -/
theorem je_olen {i : Nat} {nm : Expr} (hK : X.K = fx.K) (hg : Gl X "len") (hm : X.mg "len" = none) (hs : isStar nm = false) (hx : PE X nm (tVar i)) :
    PE X (.Call (.Name "len" p) [nm] [] pos) (TD fx Z fun ρ => do let c ← getOwn ρ i; match c with | .lst ds => pure (.int ds.length) | .dk ks _ => pure (.int ks.length) | _ => M.fail) := by
  refine PE.imp (pe_callB cr_len hg hm (by rfl) (pa_cons hx pa_nil (star_ns hs)) (he := star_ns hs)) fun σ H Q ⟨w, R, ρ, h, fr, o⟩ => ?_
  obtain ⟨cc, e1, q⟩ := getOwn_out (Out.bnd.mp o)
  obtain ⟨l, u, g1, g2, k0⟩ := fr.sr.at_ i _ e1
  have g3 := fr.hr.sR _ _ g2
  refine ⟨.ref l, g1, ?_⟩
  rw [hK]
  cases cc with
  | lst ds =>
    obtain ⟨vs, rfl, rs⟩ := k0
    have q : PD fx Q w R (.int ds.length) h := q
    exact .inl ⟨l, vs, rfl, .inl (.inl (.inl g3)), by rw [← rs.length]; exact q.now fr.hr rfl⟩
  | dk ks ds =>
    obtain ⟨vs, rfl, ln, rs⟩ := k0
    have q : PD fx Q w R (.int ks.length) h := q
    exact .inr (.inr ⟨l, _, rfl, g3, by rw [zip_len ln rs]; exact q.now fr.hr rfl⟩)
  | ins _ _ _ => exact q.elim
theorem je_oix {i : Nat} {nm : Expr} (hK : X.K = fx.K) (zs : Std Z) (hs : isSlice a = false) (hx : PE X nm (tVar i)) (ha : PE X a (TD fx Z f)) :
    PE X (.Subscript nm a pos) (TD fx Z fun ρ => do let c ← getOwn ρ i; let x ← f ρ; match c, x with | .lst ds, .int k => M.opt (getD ds k) | _, _ => M.fail) := by
  refine PE.imp (pe_ix ix_list hx ha (plain_ix hs)) fun σ H Q ⟨w, R, ρ, h, fr, o⟩ => ?_
  obtain ⟨cc, e1, q⟩ := getOwn_out (Out.bnd.mp o)
  obtain ⟨l, u, g1, g2, _⟩ := fr.sr.at_ i _ e1
  refine ⟨.ref l, g1, ?_⟩
  refine TD.then zs fr (Out.bnd.mp q) fun w1 x H1 d1 h1 le1 fr1 r1 o1 => ?_
  obtain ⟨l', u', j1, j2, k0⟩ := fr1.sr.at_ i _ e1
  rw [g1] at j1; cases j1
  rw [hK]
  cases cc with
  | lst ds =>
    cases d1 with
    | int k =>
      cases r1
      obtain ⟨vs, rfl, rs⟩ := k0
      obtain ⟨d, e2, q2⟩ := (show Out (M.opt (getD ds k) h1) (PD fx Q w R) (Z w R) from o1).opt
      obtain ⟨v, h5, h6⟩ := Rels.getD rs e2
      exact ⟨l, vs, k, v, rfl, rfl, .inl (.inl (fr1.hr.sR _ _ j2)), h5, (q2.le le1).now fr1.hr h6⟩
    | _ => exact o1.elim
  | dk _ _ => cases d1 <;> exact o1.elim
  | ins _ _ _ => cases d1 <;> exact o1.elim
/-- a in own, a not in own -/
def oinE (neg : Bool) (f : Env → M D) (i : Nat) : Env → M D := fun ρ => do
  let x ← f ρ
  let c ← getOwn ρ i
  let b ← oinP c x
  pure (.bl (if neg then !b else b))
theorem oin_read {neg : Bool} {i : Nat} {P : VK} (zs : Std Z) (hh : TD fx Z (oinE neg f i) σ H P) : tOp (rInF fx.K neg) (TD fx Z f) (tVar i) σ H P := by
  obtain ⟨w, R, ρ, h, fr, o⟩ := hh
  refine TD.then zs fr (Out.bnd.mp o) fun w1 x H1 d1 h1 le1 fr1 r1 o1 => ?_
  obtain ⟨cc, e1, q⟩ := getOwn_out (Out.bnd.mp o1)
  obtain ⟨l, u, g1, g2, k0⟩ := fr1.sr.at_ i _ e1
  have g3 := fr1.hr.sR _ _ g2
  refine ⟨.ref l, g1, ?_⟩
  cases cc with
  | lst ds =>
    obtain ⟨vs, rfl, rs⟩ := k0
    obtain ⟨b, e2, q2⟩ := (show Out (M.opt (inD d1 ds) h1) (fun b h2 => Out ((pure (.bl (if neg then !b else b)) : M D) h2) (PD fx P w R) (Z w R)) (Z w R) from Out.bnd.mp q).opt
    obtain ⟨f1, f2, rfl⟩ := inD_inv e2
    obtain ⟨i1, i2⟩ := inV_v r1 f1 rs f2
    have q2 : PD fx P w R (.bl (if neg then !(ds.any fun y => eqF y d1) else ds.any fun y => eqF y d1)) h1 := q2
    exact .inr (.inl ⟨l, vs, rfl, .inl (.inl (.inl g3)), flat_v r1 f1, i1, by rw [i2]; exact (q2.le le1).now fr1.hr rfl⟩)
  | dk ks ds =>
    obtain ⟨vs, rfl, ln, rs⟩ := k0
    obtain ⟨b, e2, q2⟩ := (show Out (M.opt ((keyD d1).map fun k => decide (k ∈ ks)) h1) (fun b h2 => Out ((pure (.bl (if neg then !b else b)) : M D) h2) (PD fx P w R) (Z w R)) (Z w R) from Out.bnd.mp q).opt
    cases z : keyD d1 with
    | none => rw [z] at e2; cases e2
    | some kk =>
      rw [z] at e2; cases e2
      have q2 : PD fx P w R (.bl (if neg then !decide (kk ∈ ks) else decide (kk ∈ ks))) h1 := q2
      refine .inr (.inr ⟨l, _, rfl, by rw [keyD_v r1 z]; exact DGet.k g3, ?_⟩)
      rw [keys_mem (k := kk) (by rw [ln, rs.length])]
      exact (q2.le le1).now fr1.hr rfl
  | ins _ _ _ => exact (Out.bnd.mp q).elim
theorem je_oin {nm : Expr} {i : Nat} (zs : Std Z) (neg : Bool) (hK : X.K = fx.K) (hu : X.A.units + 64 < cLine) (hm : behindInMarks (if neg then .NotIn else .In) nm = false) (ha : PE X a (TD fx Z f)) (hx : PE X nm (tVar i)) :
    PE X (.Compare a [if neg then .NotIn else .In] [nm] pos) (TD fx Z (oinE neg f i)) := by
  cases neg with
  | false => exact PE.imp (pe_cmpR (op_inF (by omega)) ha hx hm) fun σ H Q hh => hK ▸ oin_read zs hh
  | true => exact PE.imp (pe_cmpR (op_notInF (by omega)) ha hx hm) fun σ H Q hh => hK ▸ oin_read zs hh
theorem tru_bl {i : Nat} {neg : Bool} {P : Bool → Hp → Prop} (hh : TB fx Z (tru (oinE neg f i)) σ H P) : TD fx Z (oinE neg f i) σ H fun v H1 => ∃ b, v = .bl b ∧ P b H1 := by
  obtain ⟨w, R, ρ, h, fr, o⟩ := hh
  refine ⟨w, R, ρ, h, fr, ?_⟩
  have o1 := Out.bnd.mp (tru_out.mp o)
  refine Out.bnd.mpr (o1.imp (fun d h1 q => ?_) fun _ _ z => z)
  refine Out.bnd.mpr ((Out.bnd.mp q).imp (fun cc h2 q2 => ?_) fun _ _ z => z)
  refine Out.bnd.mpr ((Out.bnd.mp q2).imp (fun b h3 q3 => ?_) fun _ _ z => z)
  have q3 : PB fx P w R (if neg then !b else b) h3 := q3
  show PD fx _ w R (.bl (if neg then !b else b)) h3
  intro w' v H' le hr rel
  cases rel
  exact ⟨_, rfl, q3 w' H' le hr⟩
theorem jt_oin {nm : Expr} {i : Nat} (zs : Std Z) (neg : Bool) (hK : X.K = fx.K) (hu : X.A.units + 64 < cLine) (hm : behindInMarks (if neg then .NotIn else .In) nm = false) (ha : PE X a (TD fx Z f)) (hx : PE X nm (tVar i)) :
    PT X (.Compare a [if neg then .NotIn else .In] [nm] pos) (TB fx Z (tru (oinE neg f i))) := by
  cases neg with
  | false => exact PT.imp (pt_cmpR (op_inF (by omega)) ha hx hm) fun σ H Q hh => hK ▸ oin_read zs (tru_bl hh)
  | true => exact PT.imp (pt_cmpR (op_notInF (by omega)) ha hx hm) fun σ H Q hh => hK ▸ oin_read zs (tru_bl hh)
/-- the truth of what is owned -/
theorem jt_obool {nm : Expr} {i : Nat} (hK : X.K = fx.K) (hx : PE X nm (tVar i)) (he : ∀ whole, isTrue nm X.env whole = (do let v ← whole; standAt nm.pos; holding [v] (truthy v))) :
    PT X nm (TB fx Z (tru fun ρ => do let c ← getOwn ρ i; let b ← M.opt (truthC c); pure (.bl b))) := by
  refine PT.imp (pt_truth hx he) fun σ H Q ⟨w, R, ρ, h, fr, o⟩ => ?_
  obtain ⟨cc, e1, q⟩ := getOwn_out (Out.bnd.mp (tru_out.mp o))
  obtain ⟨b, e2, q⟩ := (Out.bnd.mp q).opt
  have q : PB fx Q w R b h := q
  obtain ⟨l, u, g1, g2, k0⟩ := fr.sr.at_ i _ e1
  have g3 := fr.hr.sR _ _ g2
  rw [hK]
  refine ⟨.ref l, g1, b, ?_, q w H (Wle.refl _) fr.hr⟩
  cases cc with
  | lst ds =>
    obtain ⟨vs, rfl, rs⟩ := k0
    cases e2
    exact .inl ⟨vs, .inl (.inl g3), by rw [emp_eq rs]⟩
  | dk ks ds =>
    obtain ⟨vs, rfl, ln, rs⟩ := k0
    cases e2
    exact .inr (.inr ⟨_, g3, by rw [kz_empty ln rs]⟩)
  | ins _ _ _ => cases e2
end
end PL
end
section
set_option Elab.async false
set_option linter.all false
set_option maxHeartbeats 1000000
/-! PL16: calls, exceptions, attributes. -/
namespace PL
open PySem PySem.Spec PyProof.Rows L2
def WZ (fx : Fx) (Z : XW) : WX := fun cls d _ H => ∃ w R e h, HR fx w R h H ∧ XRel fx w e cls d ∧ Z w R e h
/-- a def's promise, by its plain meaning m -/
def spF (fx : Fx) (m : List D → M D) (n : Nat) : Sp := fun vs H Q E => vs.length = n ∧ ∃ w R h ds, HR fx w R h H ∧ Rels fx w ds vs ∧
  Out (m ds h) (PD fx Q w R) fun e h' => ∀ w' cls d H', Wle w w' → HR fx w' R h' H' → XRel fx w' e cls d → E cls d H'
structure FcF (P : Program) (w0 : World) (K : PySem.W.Frag) (mg : Str → Option Value) (base : Heap) (lev : Nat) (fx : Fx) (x : Str) (m : List D → M D) (dd : List D) : Prop where
  ex : ∃ f fd ps ds dvs, FnOk P w0 K mg base (L2N.CX P w0) lev f fd ps (spF fx m ps.length) ∧ mg x = some (.ref f) ∧ PySem.W.keepIn K (.ref f) = true ∧ Binds K fd ps ds ∧ Vals dvs ds ∧ (∀ w, Rels fx w dd dvs) ∧
    ∀ zs h P X, Out (m zs h) P X → zs.length = ps.length
section
variable {fx : Fx} {Z : XW} {R0 : Hp} {w : Wd} {R : Hp} {ρ ρ' : Env} {σ : L2.St} {h : Hs} {H : Hp} {Q : VK} {X : Cx} {E : L2.Ends} {lev : Nat} {m : List D → M D} {dd : List D}
variable {e a b c tg o : Expr} {es : List Expr} {f g f3 : Env → M D} {fs gs fl : Env → M (List D)} {pos p p2 apos tpos : Pos} {s1 s2 : MS} {st : Stmt} {ss ss2 : List Stmt}
theorem call_ok {ds : List D} {vs dvs : List V} {n : Nat} (zs : Std Z) (fr : HR fx w R h H) (r : Rels fx w ds vs) (rd : ∀ w, Rels fx w dd dvs) (ar : ∀ zs h P X, Out (m zs h) P X → zs.length = n) {w0 : Wd} (le : Wle w0 w)
    (o : Out (m (ds ++ dd) h) (PD fx Q w0 R) (Z w0 R)) : spF fx m n (vs ++ dvs) H Q fun cls d H' => WZ fx Z cls d [] H' := by
  have r2 := Rels.app r (rd w)
  refine ⟨by rw [← r2.length]; exact ar _ _ _ _ o, w, R, h, ds ++ dd, fr, r2, o.imp (fun _ _ q => q.le le) fun e h' z w' cls d H' le' hr' xr => ?_⟩
  exact ⟨w', R, e, h', hr', xr, zs _ _ _ _ _ (le.trans le') z⟩
theorem pass_of (tk : L2N.Takes X (WZ fx Z)) : Passes (L2N.CX X.prog X.w) X fun cls d H' => WZ fx Z cls d [] H' := fun pins σ H s e s' I c => tk e s' (L2N.XE.of_call I (fun _ _ _ h => h) c)
def callE (fs : Env → M (List D)) (m : List D → M D) (dd : List D) : Env → M D := fun ρ => do let ds ← fs ρ; m (ds ++ dd)
theorem je_call {x : Str} (zs : Std Z) (F : FcF X.prog X.w X.K X.mg X.base lev fx x m dd) (hr : Room lev X.A) (tk : L2N.Takes X (WZ fx Z)) (hg : Gl X x) (hdb : (x == ("__debug__" : Str)) = false) (hne : es ≠ []) (hs : es.all (fun e => !isStar e) = true) (ha : PA X es (TL fx Z fs)) :
    PE X (.Call (.Name x p) es [] pos) (TD fx Z (callE fs m dd)) := by
  obtain ⟨f, fd, ps, ds, dvs, F, hm, hk, hb, hd, rd, ar⟩ := F
  cases es with
  | nil => exact absurd rfl hne
  | cons e es =>
    rw [List.all_cons, Bool.and_eq_true] at hs
    have h1 : isStar e = false := by simpa using hs.1
    refine PE.imp (pe_call F hr hg hm hk hb hd (pass_of tk) ha hdb (star_ns h1) (plain_bt hs.2)) fun σ H Q ⟨w, R, ρ, h, fr, o⟩ => ?_
    refine TL.then zs fr (Out.bnd.mp o) fun w1 vs H1 ds h1 le1 fr1 r1 o1 => ?_
    exact call_ok zs fr1.hr r1 rd ar le1 o1
theorem je_call0 {x : Str} (zs : Std Z) (F : FcF X.prog X.w X.K X.mg X.base lev fx x m dd) (hr : Room lev X.A) (tk : L2N.Takes X (WZ fx Z)) (hg : Gl X x) (hdb : (x == ("__debug__" : Str)) = false) :
    PE X (.Call (.Name x p) [] [] pos) (TD fx Z (callE (fun _ => M.ret []) m dd)) := by
  obtain ⟨f, fd, ps, ds, dvs, F, hm, hk, hb, hd, rd, ar⟩ := F
  refine PE.imp (pe_call0 F hr hg hm hk hb hd (pass_of tk) hdb) fun σ H Q ⟨w, R, ρ, h, fr, o⟩ => ?_
  exact call_ok (ds := []) (vs := []) zs fr.hr rfl rd ar (Wle.refl _) (show Out (m ([] ++ dd) h) (PD fx Q w R) (Z w R) from o)
/-! ### raise -/
/-- raise X(e), X an own class with one attribute f -/
def RzF (fx : Fx) (K : PySem.W.Frag) (mg : Str → Option Value) (x : Str) (c : Nat) : Prop := ∀ (X : Cx) (k : Nat) (W : WX) (a : Expr) (ta : TA) (p pos pos2 : Pos), X.K = K → X.mg = mg → X.calm = true → Room k X.A → L2N.Takes X W → PA X [a] ta → Gl X x → isStar a = false →
  PS X (.Raise (some (.Call (.Name x p) [a] [] pos)) none pos2) (fun _ σ H => ta σ H fun vs H1 => ∃ v, vs = [v] ∧ ∀ d, H1 d = none → W (.ref (fx.ca c)) (some d) σ (upd H1 d (.xd [(fx.xn c, v)])))
/-- raise X('..'), X an own class without __init__ -/
def RzF0 (fx : Fx) (K : PySem.W.Frag) (mg : Str → Option Value) (x : Str) (c : Nat) : Prop := ∀ (X : Cx) (W : WX) (m : Str) (j : Nat) (p p2 pos pos2 : Pos), X.K = K → X.mg = mg → X.calm = true → L2N.Takes X W → Gl X x →
  PS X (.Raise (some (.Call (.Name x p) [.Constant (.str m) j p2] [] pos)) none pos2) (fun _ σ H => W (.ref (fx.ca c)) none σ H)
def raisE (c : Nat) (fs : Env → M (List D)) : MS := fun ρ => do let ds ← fs ρ; M.thr ⟨c, ds⟩
theorem js_rais {x : Str} {c : Nat} (zs : Std Z) (zr : StdR Z) (F : RzF fx X.K X.mg x c) (hc : X.calm = true) (hr : Room lev X.A) (tk : L2N.Takes X (WZ fx Z)) (hg : Gl X x) (hs : isStar a = false) (ha : PE X a (TD fx Z f)) :
    PS X (.Raise (some (.Call (.Name x p) [a] [] pos)) none p2) (TSt fx Z R0 (raisE c (cns f fun _ => M.ret []))) := by
  refine PS.imp (F X lev (WZ fx Z) a _ p pos p2 rfl rfl hc hr tk (ja_cons zs hs ha ja_nil) hg hs) fun E σ H ⟨w, R, ρ, h, fs, o⟩ => ?_
  refine ⟨w, R, ρ, h, fs.fr, ?_⟩
  have o1 := Out.bnd.mp (Out.bnd.mp o)
  refine Out.bnd.mpr (o1.imp (fun d h1 q => ?_) fun _ _ z => zr _ _ _ _ _ fs.s0 z)
  have q : Z w R0 ⟨c, [d]⟩ h1 := q
  show PL fx _ w R [d] h1
  intro w' vs H' le hr' rs
  obtain ⟨v, u, rfl, r1, r2⟩ := rs
  cases r2
  refine ⟨v, rfl, fun dd hd => ?_⟩
  have n1 := (hr'.none hd).1
  have le2 : Wle w' (w'.add dd (.xd [(fx.xn c, v)])) := Wd.le_add n1
  exact ⟨_, R0, ⟨c, [d]⟩, h1, (hr'.lay hd).weak fs.s0, ⟨rfl, dd, v, rfl, upd_same, Rel.mono le2 _ _ r1⟩, zs _ _ _ _ _ (le.trans le2) q⟩
theorem js_rais0 {x : Str} {c : Nat} {mm : Str} {j : Nat} (zs : Std Z) (F : RzF0 fx X.K X.mg x c) (hc : X.calm = true) (tk : L2N.Takes X (WZ fx Z)) (hg : Gl X x) :
    PS X (.Raise (some (.Call (.Name x p) [.Constant (.str mm) j apos] [] pos)) none p2) (TSt fx Z R0 (raisE c fun _ => M.ret [])) := by
  refine PS.imp (F X (WZ fx Z) mm j p apos pos p2 rfl rfl hc tk hg) fun E σ H ⟨w, R, ρ, h, fs, o⟩ => ?_
  have o : Z w R0 ⟨c, []⟩ h := o
  exact ⟨w, R0, ⟨c, []⟩, h, fs.fr.hr.weak fs.s0, ⟨rfl, rfl⟩, o⟩
/-! ### attributes -/
theorem insM_ok (hr : HR fx w R h H) {d : D} {v : V} {P : Nat × List Nat × List D → Hs → Prop} {Z' : Exn → Hs → Prop} (r : Rel fx w d v) (o : Out (insM d h) P Z') : ∃ a c fs ds dx vs, v = .ref a ∧ H a = some (.ins (fx.ca c) dx ((fs.map fx.nm).zip vs)) ∧ fs.length = ds.length ∧ Rels fx w ds vs ∧ P (c, fs, ds) h := by
  cases d with
  | obj c fs ds =>
    obtain ⟨a, dx, vs, rfl, q, l, rs⟩ := r
    exact ⟨a, c, fs, ds, dx, vs, rfl, hr.sF _ _ q, l, rs, o⟩
  | ref n =>
    obtain ⟨cc, e, o⟩ := (Out.bnd.mp o).cell
    obtain ⟨a, u, rfl, _, _, _, e4, cr⟩ := Rel.cell_at hr r e
    cases cc with
    | ins c fs ds => obtain ⟨dx, vs, rfl, l, rs⟩ := cr; exact ⟨a, c, fs, ds, dx, vs, rfl, e4, l, rs, o⟩
    | lst _ => exact o.elim
    | dk _ _ => exact o.elim
  | _ => exact o.elim
theorem lookF_ok (inj : ∀ f g, fx.nm f = fx.nm g → f = g) {f : Nat} : ∀ {fs : List Nat} {ds : List D} {vs : List V} {d : D}, Rels fx w ds vs → lookF f fs ds = some d → ∃ v, ((fs.map fx.nm).zip vs).lookup (fx.nm f) = some v ∧ Rel fx w d v
  | [], ds, vs, d, _, e => by cases ds <;> cases e
  | g :: fs, [], vs, d, _, e => by cases e
  | g :: fs, x :: ds, vs, d, ⟨v, u, e1, r1, r2⟩, e => by
    subst e1
    have e : (if g = f then some x else lookF f fs ds) = some d := e
    rw [List.map_cons, List.zip_cons_cons, List.lookup_cons]
    by_cases hg : g = f
    · subst hg
      rw [if_pos rfl] at e; cases e
      exact ⟨v, by simp, r1⟩
    · rw [if_neg hg] at e
      have n : (fx.nm f == fx.nm g) = false := by
        rw [beq_eq_false_iff_ne]
        exact fun z => hg (inj _ _ z).symm
      obtain ⟨u', e2, r3⟩ := lookF_ok inj r2 e
      exact ⟨u', by rw [n]; exact e2, r3⟩
/-- no class has an attribute of that name -/
def FdF (fx : Fx) (sup : Nat → Option (List Nat)) (x : Str) : Prop := ∀ c l, sup c = some l → NoAttr fx.K (fx.ca c) x
def fldE (sup : Nat → Option (List Nat)) (n : Nat) (f : Env → M D) : Env → M D := fun ρ => do
  let x ← f ρ
  fldM sup n x
theorem je_fld {sup : Nat → Option (List Nat)} {n : Nat} (zs : Std Z) (hK : X.K = fx.K) (inj : ∀ f g, fx.nm f = fx.nm g → f = g) (cf : CF fx sup) (F : FdF fx sup (fx.nm n)) (hn : nsup a = true) (ha : PE X a (TD fx Z f)) :
    PE X (.Attribute a (fx.nm n) pos) (TD fx Z (fldE sup n f)) := by
  refine PE.imp (pe_fld ha (abase hn)) fun σ H Q ⟨w, R, ρ, h, fr, o⟩ => ?_
  refine TD.then zs fr (Out.bnd.mp o) fun w1 v H1 d h1 le1 fr1 r1 o1 => ?_
  obtain ⟨a, c, fs, ds, dx, vs, rfl, q, l, rs, o2⟩ := insM_ok fr1.hr r1 (Out.bnd.mp o1)
  obtain ⟨l', e1, o3⟩ := (Out.bnd.mp o2).opt
  obtain ⟨d', e2, o4⟩ := o3.opt
  obtain ⟨v', e3, r3⟩ := lookF_ok inj rs e2
  rw [hK]
  exact ⟨a, fx.ca c, dx, _, v', rfl, q, cf.cls c l' e1, F c l' e1, e3, (o4.le le1).now fr1.hr r3⟩
end
end PL
end
section
set_option Elab.async false
set_option linter.all false
set_option maxHeartbeats 1000000
/-! PL17: does an IR say a text: the checker. -/
namespace PL
open PySem PySem.Spec PyProof.Rows L2 LamX
/-- the names of a program: by number -/
structure Tb where
  fn : Nat → Option Str
  df : Nat → Nat → Bool
  cl : Nat → Option Str
  r1 : Nat → Bool
  r0 : Nat → Bool
  nm : Nat → Str
  fd : Nat → Bool
  gl : Nat → Option Str
  blt : List Str
  isC : Nat → Bool
  isX : Nat → Bool
  /-- the def of a lambda's call -/
  lm : Nat → Option Str
  /-- a def's own block; in an except suite -/
  lv : Bool
  hot : Bool
def Tb.inn (tb : Tb) : Tb := { tb with lv := false }
def visB (sc : Scope) (x : Str) : Bool := match sc.names.lookup x with
  | some .local => true
  | some .cell => true
  | some .free => true
  | _ => false
def locB (sc : Scope) (x : Str) : Bool := match sc.names.lookup x with
  | some .local => true
  | some .cell => true
  | _ => false
def isLoc (sc : Scope) (x : Str) : Bool := match sc.names.lookup x with
  | some .local => true
  | _ => false
def nB (N : List Str) (i : Nat) (x : Str) : Bool := decide (N[i]? = some x)
def vB (N : List Str) (sc : Scope) (i : Nat) (x : Str) : Bool := nB N i x && visB sc x && !(x == "__debug__") && !(x == "__classdict__")
def sB (N : List Str) (sc : Scope) (i : Nat) (x : Str) : Bool := nB N i x && locB sc x
def gB (sc : Scope) (x : Str) : Bool := (match sc.names.lookup x with
  | some .globalImplicit => true
  | _ => false) && !(x == "__debug__")
def bB (tb : Tb) (sc : Scope) (x : Str) : Bool := gB sc x && decide (x ∈ tb.blt)
def isB (o : Option Str) (x : Str) : Bool := decide (o = some x)
def conB : D → Const → Bool
  | .non, .none => true
  | .bl b, .bool c => b == c
  | .int i, .int j => decide (i = j)
  | .str s, .str x => decide (x = st s)
  | _, _ => false
def opB (a b : Operator) : Bool := decide (a = b)
def cmpB (a b : CmpOp) : Bool := decide (a = b)
def nsB (e : Expr) : Bool := !isStar e
def linB (a b : Pos) : Bool := a.endLine == b.line
/-- no comparison, and, or, not, .. if .. else -/
def plainT : Expr → Bool
  | .UnaryOp .Not _ _ => false
  | .BoolOp _ _ _ => false
  | .IfExp _ _ _ _ => false
  | .Compare _ _ _ _ => false
  | _ => true
def tyB (tb : Tb) (sc : Scope) : Ty → Expr → Bool
  | .cls c, .Name x _ => gB sc x && isB (tb.cl c) x && tb.isC c
  | t, .Name x _ => bB tb sc x && decide (x = (tyN t : Str))
  | _, _ => false
def tysB (tb : Tb) (sc : Scope) : List Ty → List Expr → Bool
  | [], [] => true
  | t :: ts, e :: es => tyB tb sc t e && nsB e && tysB tb sc ts es
  | _, _ => false
mutual
def tgB (N : List Str) (sc : Scope) : Tg → Expr → Bool
  | .n i, .Name x _ => sB N sc i x
  | .t ts, .Tuple es _ _ => tgsB N sc ts es
  | _, _ => false
def tgsB (N : List Str) (sc : Scope) : List Tg → List Expr → Bool
  | [], [] => true
  | t :: ts, e :: es => tgB N sc t e && nsB e && tgsB N sc ts es
  | _, _ => false
end
/-- what is checked: an expression, or the rest of an and, or -/
inductive Gl' where
  | e (x : Expr) | b (op : BoolOp) (es : List Expr)
def nrm : Gl' → Gl'
  | .b op [e] => .e e
  | g => g
def wr (e : Expr) : Expr := e
/-- no parameters -/
def lamB : Arguments → Bool
  | ⟨[], [], none, [], [], none, []⟩ => true
  | _ => false
def nsS : Expr → Bool
  | .Set _ _ _ => false
  | _ => true
def isT : Ex → Bool
  | .c (.bl true) => true
  | _ => false
def ownN (N : List Str) (own : List Nat) : List (Str × Nat) := own.filterMap fun i => (N[i]?).map fun x => (x, i)
/-- a list's walk within a suite -/
def hotI (N : List Str) (sc : Scope) : Tg → Ex → Expr → Bool
  | .n _, .v i, .Name x _ => vB N sc i x
  | _, _, _ => false
mutual
def chk (tb : Tb) (N : List Str) (sc : Scope) (t : Bool) : Ex → Gl' → Bool
  | .c d, g => (match nrm g with
    | .e (.Constant k j p) => conB d k
    | _ => false)
  | .v i, g => (match nrm g with
    | .e (.Name x p) => vB N sc i x
    | _ => false)
  | .g n, g => (match nrm g with
    | .e (.Name x p) => gB sc x && isB (tb.gl n) x
    | _ => false)
  | .bin op a b, g => (match nrm g with
    | .e (.BinOp x o y p) => opB op o && opSrv o && chk tb N sc false a (.e x) && chk tb N sc false b (.e y)
    | _ => false)
  | .neg a, g => (match nrm g with
    | .e (.UnaryOp .USub x p) => chk tb N sc false a (.e x)
    | _ => false)
  | .cmp op a b, g => (match nrm g with
    | .e (.Compare x [o] [y] p) => cmpB op o && !behindInMarks o y && chk tb N sc false a (.e x) && chk tb N sc false b (.e y)
    | _ => false)
  | .chain o p a b c, g => (match nrm g with
    | .e (.Compare x [o', p'] [y, z] pos) => cmpB o o' && cmpB p p' && !behindInMarks o' y && !behindInMarks p' z && chk tb N sc false a (.e x) && chk tb N sc false b (.e y) && chk tb N sc false c (.e z)
    | _ => false)
  | .and_ a b, g => (match nrm g with
    | .e (.BoolOp .And (x :: y :: r) p) => chk tb N sc t a (.e x) && chk tb N sc t b (.b .And (y :: r))
    | .b .And (x :: y :: r) => chk tb N sc t a (.e x) && chk tb N sc t b (.b .And (y :: r))
    | _ => false)
  | .or_ a b, g => (match nrm g with
    | .e (.BoolOp .Or (x :: y :: r) p) => chk tb N sc t a (.e x) && chk tb N sc t b (.b .Or (y :: r))
    | .b .Or (x :: y :: r) => chk tb N sc t a (.e x) && chk tb N sc t b (.b .Or (y :: r))
    | _ => false)
  | .not_ a, g => (match nrm g with
    | .e (.UnaryOp .Not x p) => chk tb N sc t a (.e x)
    | _ => false)
  | .ite c a b, g => (match nrm g with
    | .e (.IfExp z x y p) => !t && chk tb N sc true c (.e z) && chk tb N sc false a (.e x) && chk tb N sc false b (.e y)
    | _ => false)
  | .tup es, g => (match nrm g with
    | .e (.Tuple xs j p) => chks tb N sc es xs
    | _ => false)
  | .ix a b, g => (match nrm g with
    | .e (.Subscript x y p) => !isSlice y && chk tb N sc false a (.e x) && chk tb N sc false b (.e y)
    | _ => false)
  | .sl a lo hi, g => (match nrm g with
    | .e (.Subscript x (.Slice l u none p2) p) => chk tb N sc false a (.e x) && (match l with
        | none => isNul lo
        | some y => !isNul lo && chk tb N sc false lo (.e y)) && (match u with
        | none => isNul hi
        | some y => !isNul hi && chk tb N sc false hi (.e y))
    | _ => false)
  | .isi ts one a, g => (match nrm g with
    | .e (.Call (.Name f _) [x, y] [] p) => (f == "isinstance") && bB tb sc f && nsB x && chk tb N sc false a (.e x) && (match one, ts, y with
        | true, [ty], .Name n q => tyB tb sc ty (.Name n q)
        | false, ty :: tys, .Tuple es _ _ => tysB tb sc (ty :: tys) es && decide (tys.length < 99)
        | _, _, _ => false)
    | _ => false)
  | .b1 k a, g => (match nrm g with
    | .e (.Call (.Name f _) [x] [] p) => (!tb.hot || okHot k) && (f == b1N k) && bB tb sc f && nsB x && chk tb N sc false a (.e x)
    | _ => false)
  | .b2 k a b, g => (match nrm g with
    | .e (.Call (.Name f _) [x, y] [] p) => (!tb.hot) && (f == b2N k) && bB tb sc f && nsB x && nsB y && chk tb N sc false a (.e x) && chk tb N sc false b (.e y)
    | _ => false)
  | .sm k a es, g => (match nrm g with
    | .e (.Call (.Attribute x n ap) ys [] p) => (n == smN k) && nsup x && linB ap p && chk tb N sc false a (.e x) && (match es, ys with
        | [b], [y] => sm1k k && nsB y && chk tb N sc false b (.e y)
        | [], [] => decide (k = .bits) || decide (k = .upper)
        | _, _ => false)
    | _ => false)
  | .js es, g => (match nrm g with
    | .e (.JoinedStr (x :: y :: r) p) => chks tb N sc es (x :: y :: r)
    | _ => false)
  | .fm a, g => (match nrm g with
    | .e (.FormattedValue x k none p) => (!tb.hot && decide (k = -1)) && chk tb N sc false a (.e x)
    | _ => false)
  | .call f j es, g => (match nrm g with
    | .e (.Call (.Name x _) ys [] p) => (!tb.hot) && gB sc x && isB (tb.fn f) x && tb.df f j && chks tb N sc es ys
    | _ => false)
  | .fld n a, g => (match nrm g with
    | .e (.Attribute x m p) => decide (m = tb.nm n) && tb.fd n && nsup x && chk tb N sc false a (.e x)
    | _ => false)
  | .olen i, g => (match nrm g with
    | .e (.Call (.Name f _) [.Name x q] [] p) => (f == "len") && bB tb sc f && vB N sc i x
    | _ => false)
  | .oix i a, g => (match nrm g with
    | .e (.Subscript (.Name x q) y p) => vB N sc i x && !isSlice y && chk tb N sc false a (.e y)
    | _ => false)
  | .oin neg a i, g => (match nrm g with
    | .e (.Compare x [o] [.Name y q] p) => cmpB o (if neg then .NotIn else .In) && vB N sc i y && chk tb N sc false a (.e x)
    | _ => false)
  | .obool i, g => (match nrm g with
    | .e (.Name x p) => t && vB N sc i x
    | _ => false)
  | .happ o a, g => (match nrm g with
    | .e (.Call (.Attribute x n ap) [y] [] p) => (n == "append") && nsup x && nsB y && linB ap p && chk tb N sc false o (.e x) && chk tb N sc false a (.e y)
    | _ => false)
  | .hpop o, g => (match nrm g with
    | .e (.Call (.Attribute x n ap) [] [] p) => (n == "pop") && nsup x && linB ap p && chk tb N sc false o (.e x)
    | _ => false)
  | .hpopat o a, g => (match nrm g with
    | .e (.Call (.Attribute x n ap) [y] [] p) => (n == "pop") && nsup x && nsB y && linB ap p && chk tb N sc false o (.e x) && chk tb N sc false a (.e y)
    | _ => false)
  | .hrev o, g => (match nrm g with
    | .e (.Call (.Attribute x n ap) [] [] p) => (n == "reverse") && nsup x && linB ap p && chk tb N sc false o (.e x)
    | _ => false)
  | .hclear o, g => (match nrm g with
    | .e (.Call (.Attribute x n ap) [] [] p) => (n == "clear") && nsup x && linB ap p && chk tb N sc false o (.e x)
    | _ => false)
  | .eis i k, g => (match nrm g with
    | .e (.Call (.Name f _) [.Name x _, .Name y _] [] p) => tb.lv && (f == "isinstance") && bB tb sc f && vB N sc i x && gB sc y && (match k with
      | none => (y == "ValueError") && decide (y ∈ tb.blt)
      | some c => isB (tb.cl c) y && tb.isX c)
    | _ => false)
  | .efld i n, g => (match nrm g with
    | .e (.Attribute (.Name x _) m p) => tb.lv && vB N sc i x && decide (m = tb.nm n)
    | _ => false)
  | .lam f a, g => (match nrm g with
    | .e (.Call (.Name x _) [.Lambda params body scope lp] [] p) => tb.lv && (!tb.hot) && gB sc x && isB (tb.lm f) x && lamSB sc scope && lamB params && chk tb.inn N scope false a (.e body)
    | _ => false)
  | .d0, g => (match nrm g with
    | .e (.Dict [] [] p) => true
    | _ => false)
  | .fz l, g => (match nrm g with
    | .e x => chkL tb N sc l x
    | _ => false)
  | .hp l, g => (match nrm g with
    | .e x => chkL tb N sc l x
    | _ => false)
  | _, _ => false
/-- a new list -/
def chkL (tb : Tb) (N : List Str) (sc : Scope) : Ex → Expr → Bool
  | .L es, e => (match wr e with
    | .List xs p => chks tb N sc es xs
    | _ => false)
  | .Lcp a, e => (match wr e with
    | .Call (.Name f _) [x] [] p => (f == "list") && bB tb sc f && nsB x && chk tb N sc false a (.e x)
    | _ => false)
  | .Lr1 a, e => (match wr e with
    | .Call (.Name f _) [.Call (.Name r _) [x] [] _] [] p => (!tb.hot) && (f == "list") && bB tb sc f && (r == "range") && bB tb sc r && nsB x && chk tb N sc false a (.e x)
    | _ => false)
  | .Lr2 a b, e => (match wr e with
    | .Call (.Name f _) [.Call (.Name r _) [x, y] [] _] [] p => (!tb.hot) && (f == "list") && bB tb sc f && (r == "range") && bB tb sc r && nsB x && nsB y && chk tb N sc false a (.e x) && chk tb N sc false b (.e y)
    | _ => false)
  | .Lc own tg it cond elt, e => (match wr e with
    | .ListComp e [⟨tgA, itA, ifs, 0⟩] scope p =>
      blkC N sc scope (ownN N own) && decide ((ownN N own).map (·.2) = own) && decide (scope.kind = .function) && (tgS tg).all (fun i => decide (i ∈ own)) && tgB N scope tg tgA && nsS itA && (if tb.hot then tb.lv && hotI N sc tg it itA else chkI tb N sc it tgA itA) && (match ifs with
      | [] => isT cond
      | [c] => chk tb.inn N (relS scope sc) true cond (.e c)
      | _ => false) && chk tb.inn N (relS scope sc) false elt (.e e)
    | _ => false)
  | .Lsl a lo hi, e => (match wr e with
    | .Subscript x (.Slice l u none p2) p => chk tb N sc false a (.e x) && (match l with
        | none => isNul lo
        | some y => !isNul lo && chk tb N sc false lo (.e y)) && (match u with
        | none => isNul hi
        | some y => !isNul hi && chk tb N sc false hi (.e y))
    | _ => false)
  | .Lcat a b, e => (match wr e with
    | .BinOp x .Add y p => chk tb N sc false a (.e x) && chk tb N sc false b (.e y)
    | _ => false)
  | .Lrep a b, e => (match wr e with
    | .BinOp x .Mult y p => chk tb N sc false a (.e x) && chk tb N sc false b (.e y)
    | _ => false)
  | .Lspl a b, e => (match wr e with
    | .Call (.Attribute x n ap) [y] [] p => (n == "split") && nsup x && nsB y && linB ap p && chk tb N sc false a (.e x) && chk tb N sc false b (.e y)
    | _ => false)
  | _, _ => false
/-- what is walked, with the target -/
def chkI (tb : Tb) (N : List Str) (sc : Scope) : Ex → Expr → Expr → Bool
  | .Il a, _, x => chk tb N sc false a (.e x)
  | .Ir1 a, _, e => (match wr e with
    | .Call (.Name r _) [x] [] _ => (r == "range") && bB tb sc r && nsB x && chk tb N sc false a (.e x)
    | _ => false)
  | .Ir2 a b, _, e => (match wr e with
    | .Call (.Name r _) [x, y] [] _ => (r == "range") && bB tb sc r && nsB x && nsB y && chk tb N sc false a (.e x) && chk tb N sc false b (.e y)
    | _ => false)
  | _, _, _ => false
def chks (tb : Tb) (N : List Str) (sc : Scope) : List Ex → List Expr → Bool
  | [], [] => true
  | x :: xs, e :: es => nsB e && chk tb N sc false x (.e e) && chks tb N sc xs es
  | _, _ => false
end
end PL
end
section
set_option Elab.async false
set_option linter.all false
set_option maxHeartbeats 1000000
/-! PL18: the checker is sound: expressions. -/
namespace PL
open PySem PySem.Spec PyProof.Rows L2 LamX
/-- the wish of an exception, by the promise's -/
def ZC (fx : Fx) (E : XK) : XW := fun w R e h => ∀ w' cls d H', Wle w w' → HR fx w' R h H' → XRel fx w' e cls d → E cls d H'
theorem zc_std {fx : Fx} {E : XK} : Std (ZC fx E) := fun _ _ _ _ _ le z w' cls d H' le' => z w' cls d H' (le.trans le')
theorem zc_stdR {fx : Fx} {E : XK} : StdR (ZC fx E) := fun _ _ _ _ _ s z w' cls d H' le' hr => z w' cls d H' le' (hr.weak s)
/-- what is known of the program around, and of the place -/
structure Cty (tb : Tb) (C : Cfg) (fx : Fx) (lev : Nat) (N : List Str) (Z : XW) (sc : Scope) (X : Cx) : Prop where
  hK : X.K = fx.K
  calm : tb.hot = false → X.calm = true
  room : tb.hot = false → Room (lev + 2) X.A
  uni : X.A.units + 64 < cLine
  hN : X.N = N
  nd : N.Nodup
  hsc : X.env.scope = sc
  tk : L2N.Takes X (WZ fx Z)
  free : ∀ x ∈ tb.blt, X.mg x = none
  fcf : ∀ f j x, tb.fn f = some x → tb.df f j = true → FcF X.prog X.w X.K X.mg X.base lev fx x (C.call f) (C.dfl f j)
  glo : ∀ g x, tb.gl g = some x → ∃ d v u, C.glo g = some d ∧ X.mg x = some u ∧ RelV v u ∧ ∀ w, Rel fx w d v
  cf : CF fx C.sup
  nm : fx.nm = tb.nm
  inj : ∀ f g, fx.nm f = fx.nm g → f = g
  fdf : ∀ n, tb.fd n = true → FdF fx C.sup (fx.nm n)
  cls : ∀ c x, tb.cl c = some x → X.mg x = some (.ref (fx.ca c))
  isC : ∀ c, tb.isC c = true → (C.sup c).isSome = true
  rz : ∀ c x, tb.cl c = some x → tb.r1 c = true → RzF fx X.K X.mg x c
  rz0 : ∀ c x, tb.cl c = some x → tb.r0 c = true → RzF0 fx X.K X.mg x c
  nod : X.base.NoDigits
/-- the rest: at the level of a def's own block alone -/
structure Lvl (tb : Tb) (C : Cfg) (fx : Fx) (lev : Nat) (N : List Str) (Z : XW) (sc : Scope) (X : Cx) : Prop extends Cty tb C fx lev N Z sc X where
  eis : tb.lv = true → ∀ (i : Nat) (x y : Str) (k : Option Nat) (p p1 p2 pos : Pos), vB N sc i x = true → gB sc y = true → (match k with
      | none => (y == "ValueError") && decide (y ∈ tb.blt)
      | some c => isB (tb.cl c) y && tb.isX c) = true → bB tb sc "isinstance" = true → PE X (.Call (.Name "isinstance" p) [.Name x p1, .Name y p2] [] pos) (TD fx Z (eisE C i k))
  efld : tb.lv = true → ∀ (i n : Nat) (x : Str) (p pos : Pos), vB N sc i x = true → PE X (.Attribute (.Name x p) (tb.nm n) pos) (TD fx Z (efldE C i n))
  lam : tb.lv = true → tb.hot = false → ∀ (f : Nat) (x : Str) (m : Env → M D) (params : Arguments) (body : Expr) (scope : Scope) (p lp pos : Pos), tb.lm f = some x → gB sc x = true → lamSB sc scope = true → lamB params = true →
    (∀ (X' : Cx) (E : XK), Cty tb.inn C fx lev N (ZC fx E) scope X' → PE X' body (TD fx (ZC fx E) m)) → PE X (.Call (.Name x p) [.Lambda params body scope lp] [] pos) (TD fx Z fun ρ => C.hnd f (m ρ))
  hotc : tb.lv = true → tb.hot = true → L2H.HotC X
/-- of a def's own block, too -/
structure Ctx (tb : Tb) (C : Cfg) (fx : Fx) (lev : Nat) (N : List Str) (Z : XW) (sc : Scope) (X : Cx) : Prop extends Lvl tb C fx lev N Z sc X where
  kind : sc.kind = .function
  fnc : ∀ x, X.fn x = true
  po : PassesOwn (model X.prog X.w) X.A X.env X.xe
section
variable {tb : Tb} {C : Cfg} {fx : Fx} {lev : Nat} {N : List Str} {Z : XW} {sc : Scope} {X : Cx} {t : Bool} {f g : Env → M D} {e : Expr} {es : List Expr} {op : BoolOp}
/-- the judgement of what is checked -/
def Jn (fx : Fx) (Z : XW) (X : Cx) : Bool → Gl' → (Env → M D) → Prop
  | false, .e e, f => PE X e (TD fx Z f)
  | false, .b op es, f => ∀ pos, PE X (.BoolOp op es pos) (TD fx Z f)
  | true, .e e, f => PT X e (TB fx Z (tru f))
  | true, .b op es, f => ∀ pos, PW X (.BoolOp op es pos) (TB fx Z (tru f))
def J (fx : Fx) (Z : XW) (X : Cx) (t : Bool) (g : Gl') (f : Env → M D) : Prop := Jn fx Z X t (nrm g) f
theorem J.pe (j : J fx Z X false (.e e) f) : PE X e (TD fx Z f) := j
theorem J.pt (j : J fx Z X true (.e e) f) : PT X e (TB fx Z (tru f)) := j
theorem J.b (j : J fx Z X false (.b op es) f) (pos : Pos) : PE X (.BoolOp op es pos) (TD fx Z f) := by
  cases es with
  | nil => exact j pos
  | cons x r =>
    cases r with
    | nil => exact pe_one j
    | cons y r => exact j pos
theorem J.w (j : J fx Z X true (.b op es) f) (pos : Pos) : PW X (.BoolOp op es pos) (TB fx Z (tru f)) := by
  cases es with
  | nil => exact j pos
  | cons x r =>
    cases r with
    | nil =>
      have j : PT X x (TB fx Z (tru f)) := j
      cases op with
      | And => exact pw_and1 j
      | Or => exact pw_or1 j
    | cons y r => exact j pos
/-- an expression that is no test by its form -/
theorem jn_val (zs : Std Z) (hK : X.K = fx.K) (t : Bool) (ha : PE X e (TD fx Z f)) (he : ∀ whole, isTrue e X.env whole = (do let v ← whole; standAt e.pos; holding [v] (truthy v))) : Jn fx Z X t (.e e) f := by
  cases t with
  | false => exact ha
  | true => exact jt_val zs hK ha he
theorem and3 {a b : Bool} (h : (a && b) = true) : a = true ∧ b = true := by rw [Bool.and_eq_true] at h; exact h
theorem vB_ok {i : Nat} {x : Str} (c : Cty tb C fx lev N Z sc X) (h : vB N sc i x = true) : X.N[i]? = some x ∧ Vis X.env.scope x ∧ (x == ("__debug__" : Str)) = false ∧ (x == ("__classdict__" : Str)) = false := by
  unfold vB at h
  simp only [Bool.and_eq_true, Bool.not_eq_true'] at h
  obtain ⟨⟨⟨h1, h2⟩, h3⟩, h4⟩ := h
  refine ⟨by rw [c.hN]; exact of_decide_eq_true h1, ?_, h3, h4⟩
  rw [c.hsc]
  unfold visB at h2
  split at h2 <;> first | exact .inl (by assumption) | exact .inr (.inl (by assumption)) | exact .inr (.inr (by assumption)) | cases h2
theorem sB_ok {i : Nat} {x : Str} (c : Ctx tb C fx lev N Z sc X) (h : sB N sc i x = true) : X.N[i]? = some x ∧ Loc X.env.scope x ∧ (X.fn x = true ∨ X.env.scope.names.lookup x = some .local) := by
  unfold sB at h
  obtain ⟨h1, h2⟩ := and3 h
  refine ⟨by rw [c.hN]; exact of_decide_eq_true h1, ?_⟩
  rw [c.hsc]
  unfold locB at h2
  split at h2
  · rename_i q; exact ⟨.inl q, .inr q⟩
  · rename_i q; exact ⟨.inr q, .inl (c.fnc _)⟩
  · cases h2
theorem gB_ok {x : Str} (c : Cty tb C fx lev N Z sc X) (h : gB sc x = true) : Gl X x ∧ (x == ("__debug__" : Str)) = false := by
  unfold gB at h
  simp only [Bool.and_eq_true, Bool.not_eq_true'] at h
  obtain ⟨h1, h2⟩ := h
  refine ⟨?_, h2⟩
  show X.env.scope.names.lookup x = some .globalImplicit
  rw [c.hsc]
  split at h1
  · assumption
  · cases h1
theorem bB_ok {x : Str} (c : Cty tb C fx lev N Z sc X) (h : bB tb sc x = true) : Gl X x ∧ X.mg x = none := by
  unfold bB at h
  obtain ⟨h1, h2⟩ := and3 h
  exact ⟨(gB_ok c h1).1, c.free x (of_decide_eq_true h2)⟩
theorem Cty.u64 (c : Cty tb C fx lev N Z sc X) : X.A.units + 64 < cLine := c.uni
theorem nsB_ok (h : nsB e = true) : isStar e = false := by unfold nsB at h; simpa using h
theorem not_ok {b : Bool} (h : (!b) = true) : b = false := by simpa using h
theorem conB_ok {d : D} {k : Const} {j : Nat} {p : Pos} (h : conB d k = true) : ∃ v, PE X (.Constant k j p) (tC v) ∧ ∀ w, Rel fx w d v := by
  unfold conB at h
  split at h
  · exact ⟨.non, pe_non, fun _ => rfl⟩
  · have := eq_of_beq h; subst this; exact ⟨_, pe_bl, fun _ => rfl⟩
  · have := of_decide_eq_true h; subst this; exact ⟨_, pe_int, fun _ => rfl⟩
  · have := of_decide_eq_true h; subst this; exact ⟨_, pe_str, fun _ => rfl⟩
  · cases h
theorem tyB_ok {ty : Ty} {n : Str} {q : Pos} (c : Cty tb C fx lev N Z sc X) (h : tyB tb sc ty (.Name n q) = true) : tyOk C.sup ty = true ∧ PE X (.Name n q) (tC (tyV' fx ty)) := by
  cases ty with
  | cls k =>
    have h : (gB sc n && isB (tb.cl k) n && tb.isC k) = true := h
    simp only [Bool.and_eq_true] at h
    obtain ⟨⟨h1, h2⟩, h3⟩ := h
    obtain ⟨g1, g2⟩ := gB_ok c h1
    exact ⟨c.isC k h3, pe_glob g1 (c.cls k n (of_decide_eq_true h2)) rfl g2⟩
  | int =>
    obtain ⟨h1, h2⟩ := and3 (show (bB tb sc n && decide (n = (tyN .int : Str))) = true from h)
    have := of_decide_eq_true h2; subst this
    obtain ⟨g1, g2⟩ := bB_ok c h1
    exact ⟨rfl, pe_bltn (u := .type "int") g1 g2 (by rfl) rfl (by decide) (by decide)⟩
  | bool =>
    obtain ⟨h1, h2⟩ := and3 (show (bB tb sc n && decide (n = (tyN .bool : Str))) = true from h)
    have := of_decide_eq_true h2; subst this
    obtain ⟨g1, g2⟩ := bB_ok c h1
    exact ⟨rfl, pe_bltn (u := .type "bool") g1 g2 (by rfl) rfl (by decide) (by decide)⟩
  | str =>
    obtain ⟨h1, h2⟩ := and3 (show (bB tb sc n && decide (n = (tyN .str : Str))) = true from h)
    have := of_decide_eq_true h2; subst this
    obtain ⟨g1, g2⟩ := bB_ok c h1
    exact ⟨rfl, pe_bltn (u := .type "str") g1 g2 (by rfl) rfl (by decide) (by decide)⟩
  | list =>
    obtain ⟨h1, h2⟩ := and3 (show (bB tb sc n && decide (n = (tyN .list : Str))) = true from h)
    have := of_decide_eq_true h2; subst this
    obtain ⟨g1, g2⟩ := bB_ok c h1
    exact ⟨rfl, pe_bltn (u := .type "list") g1 g2 (by rfl) rfl (by decide) (by decide)⟩
  | tuple =>
    obtain ⟨h1, h2⟩ := and3 (show (bB tb sc n && decide (n = (tyN .tuple : Str))) = true from h)
    have := of_decide_eq_true h2; subst this
    obtain ⟨g1, g2⟩ := bB_ok c h1
    exact ⟨rfl, pe_bltn (u := .type "tuple") g1 g2 (by rfl) rfl (by decide) (by decide)⟩
  | dict =>
    obtain ⟨h1, h2⟩ := and3 (show (bB tb sc n && decide (n = (tyN .dict : Str))) = true from h)
    have := of_decide_eq_true h2; subst this
    obtain ⟨g1, g2⟩ := bB_ok c h1
    exact ⟨rfl, pe_bltn (u := .type "dict") g1 g2 (by rfl) rfl (by decide) (by decide)⟩
theorem tysB_ok (c : Cty tb C fx lev N Z sc X) : ∀ {ts : List Ty} {es : List Expr}, tysB tb sc ts es = true → ts.all (tyOk C.sup) = true ∧ PA X es (fun _ H Q => Q (ts.map (tyV' fx)) H)
  | [], [], _ => ⟨rfl, pa_nil⟩
  | [], _ :: _, h => by cases h
  | _ :: _, [], h => by cases h
  | ty :: ts, e :: es, h => by
    have h : (tyB tb sc ty e && nsB e && tysB tb sc ts es) = true := h
    simp only [Bool.and_eq_true] at h
    obtain ⟨⟨h1, h2⟩, h3⟩ := h
    obtain ⟨i1, i2⟩ := tysB_ok c h3
    cases e with
    | Name n q =>
      obtain ⟨j1, j2⟩ := tyB_ok c h1
      exact ⟨by rw [List.all_cons, j1, i1]; rfl, pa_cons j2 i2⟩
    | _ => cases ty <;> cases h1
mutual
/-- a target's store -/
def gOf (K : PySem.W.Frag) : Tg → TG
  | .n i => gName i
  | .t ts => gTup K ts.length (gsOf K ts)
def gsOf (K : PySem.W.Frag) : List Tg → TGs
  | [] => gNil
  | t :: ts => gCons (gOf K t) (gsOf K ts)
end
mutual
theorem gok_of : ∀ tg : Tg, GOk fx tg (gOf fx.K tg)
  | .n i => gok_n
  | .t ts => gok_t (gsok_of ts)
theorem gsok_of : ∀ ts : List Tg, GsOk fx ts (gsOf fx.K ts)
  | [] => gsok_nil
  | t :: ts => gsok_cons (gok_of t) (gsok_of ts)
end
mutual
/-- targets -/
theorem tgB_ok (hc : X.calm = true) (nd : X.N.Nodup) (hn : ∀ i x, sB N sc i x = true → X.N[i]? = some x ∧ Loc X.env.scope x ∧ (X.fn x = true ∨ X.env.scope.names.lookup x = some .local)) : ∀ (tg : Tg) (e : Expr), tgB N sc tg e = true → PG X e (gOf X.K tg)
  | .n i, e, h => by
    cases e with
    | Name x p =>
      obtain ⟨h1, h2, h3⟩ := hn i x (show sB N sc i x = true from h)
      exact pg_name nd h1 h2 h3
    | _ => cases h
  | .t ts, e, h => by
    cases e with
    | Tuple es k p =>
      obtain ⟨h1, h3, h4⟩ := tgsB_ok hc nd hn ts es (show tgsB N sc ts es = true from h)
      exact pg_tup (n := ts.length) hc h1 h3 h4
    | _ => cases h
theorem tgsB_ok (hc : X.calm = true) (nd : X.N.Nodup) (hn : ∀ i x, sB N sc i x = true → X.N[i]? = some x ∧ Loc X.env.scope x ∧ (X.fn x = true ∨ X.env.scope.names.lookup x = some .local)) : ∀ (ts : List Tg) (es : List Expr), tgsB N sc ts es = true → PGs X es (gsOf X.K ts) ∧ (assignEach es X.env).length = ts.length ∧ (assignEach es X.env).findIdx? (·.1) = none
  | [], [], _ => ⟨pgs_nil, rfl, rfl⟩
  | [], _ :: _, h => by cases h
  | _ :: _, [], h => by cases h
  | t :: ts, e :: es, h => by
    have h : (tgB N sc t e && nsB e && tgsB N sc ts es) = true := h
    simp only [Bool.and_eq_true] at h
    obtain ⟨⟨h1, h2⟩, h3⟩ := h
    have a1 := tgB_ok hc nd hn t e h1
    obtain ⟨b1, b3, b4⟩ := tgsB_ok hc nd hn ts es h3
    have q : assignEach (e :: es) X.env = (false, assign e X.env) :: assignEach es X.env := by
      cases e <;> first | rfl | (cases h2)
    refine ⟨pgs_cons a1 b1 (by rw [q]; rfl), by rw [q, List.length_cons, List.length_cons, b3], ?_⟩
    rw [q, List.findIdx?_cons]
    simp [b4]
end
theorem Ctx.tg (c : Ctx tb C fx lev N Z sc X) (hh : tb.hot = false) {tg : Tg} (h : tgB N sc tg e = true) : PG X e (gOf fx.K tg) := by
  rw [← c.hK]
  exact tgB_ok (c.calm hh) (by rw [c.hN]; exact c.nd) (fun i x h => sB_ok c h) tg e h
end
end PL
end
section
set_option Elab.async false
set_option linter.all false
set_option maxHeartbeats 2000000
/-! PL18a: a list comprehension within the suite of an except clause: over a list. -/
namespace PL
open PySem PySem.Spec PyProof.Rows L2 LamX
section
variable {prog : Program} {wd : World} {A : Around} {E : Value → Shared → Prop} {s : Shared}
/-- the end of a list's iterator, an exception at hand -/
theorem nextL_end {it l z : Addr} {i : Nat} {its : Array Value} {Q : Option Value → Shared → Prop} (hot : HotX.HotAt A z s.heap) (hz : z ≠ it) (hit : s.heap.IsListIter it l i) (hl : s.heap.IsList l its) (hx : its[i]? = none)
    (hQ : ∀ h2, Heap.ExtBut it s.heap h2 → Q none { s with heap := h2 }) : wpAny (model prog wd) A (pyNext (.ref it)) Q E s := by
  obtain ⟨o, e1, e2, e3⟩ := id hit
  obtain ⟨ol, f1, _, nl, f2⟩ := hl
  obtain ⟨hh, oz, vz, g1, g2, g3⟩ := hot
  unfold pyNext
  refine wpAny_bind (wpAny_attempt (wpAny_callSpecial?_slot (name := Str.ofString "__next__") hit.typeIs slot_listiter_next (wpAny_call_entry slot_listiter_next hit.typeIs entry_listiter_next ?_ (args_listiter_next _))))
  show wpAny _ _ (field (.ref it) 0 >>= _) _ _ s
  refine wpAny_bind (wpAny_field e1 e3 (x := .ref l) rfl ?_)
  show wpAny _ _ (if (Value.ref l == Value.none) = true then _ else _) _ _ s
  rw [if_neg (show ¬ ((Value.ref l == Value.none) = true) from Bool.false_ne_true)]
  show wpAny _ _ (field (.ref it) 1 >>= _) _ _ s
  refine wpAny_bind (wpAny_field e1 e3 (x := .int i 0) rfl ?_)
  show wpAny _ _ (seqItems? (.ref l) >>= _) _ _ s
  refine wpAny_bind (wpAny_seqItems f1 f2 ?_)
  simp only [Int.toNat_natCast, hx]
  refine wpAny_bind (wpAny_rule (wpAny_bind (wpAny_setField e1 e3 (by simp) ?_)))
  show wpAny _ _ (newExc (.type "StopIteration") [] >>= _) _ _ _
  refine wpAny_bind ?_
  simp only [newExc, newTuple]
  refine wpAny_bind (wpAny_newObj_type ?_ (by size_fits))
  refine wpAny_bind (m := firstArgMember _ _) (wpAny_of_eq (a := Value.none) (by first | rfl | (simp only [firstArgMember]; rfl)) ?_)
  refine wpAny_newObj_type ?_ (by size_fits)
  have sb := Heap.SameBut.update (h := s.heap) (a := it) (f := Obj.mapFields (·.setIfInBounds 0 .none))
  have g1' := (sb.2 z hz).trans g1
  refine HotX.raiseNew_hot ⟨hh, oz, vz, Heap.get?_push_of_some _ (Heap.get?_push_of_some _ g1'), g2, g3⟩ (Nat.ne_of_lt (Heap.lt_size (Heap.get?_push_of_some _ g1'))) (Heap.get?_push_size _ rfl) rfl (by first | (simp; done) | (simp; omega) | (simp only [Array.size_append]; simp; omega)) ?_
  refine wpAny_bind (wpAny_isInstance (T := "StopIteration") (b := true) ⟨_, Heap.get?_update_self _ (Heap.get?_push_size _ rfl) rfl, rfl⟩ isSubtype_stop ?_)
  refine wpAny_pure (hQ _ fun b o hb e => ?_)
  have e' := (sb.2 b hb).trans e
  rw [Heap.get?_update_other _ _ (Nat.ne_of_gt (Heap.lt_size (Heap.get?_push_of_some _ e')))]
  exact Heap.get?_push_of_some _ (Heap.get?_push_of_some _ e')
end
section
variable {X : Cx}
theorem compE_kinds {sc : Scope} (ok : BlkOk X.N X.env.scope sc own) (h : X.Ok) : ∀ y ∈ sc.names, y.2 = .free → ∃ c, X.env.cells.lookup y.1 = some c := fun y hy e => by
  rcases ok.free y hy e with k | k
  · exact h.has _ (.inl k)
  · exact h.has _ (.inr k)
theorem lch_core {pins : List (Addr × Obj)} {s : Shared} {σ : L2.St} {H : Hp} {Q : VK} {elt tg iter : Expr} {ifs : List Expr} {sc : Scope} {own : List (Str × Nat)} {pos pos2 : Pos} {tl : TE} {g : TG} {tt : TT} {te : TE} {use : Option (Value → Sem Unit)} {Qf : Value → Shared → Prop}
    (hc : L2H.HotC X) (nd : X.N.Nodup) (I : Inv X pins σ H s) (hl : PE X iter tl) (ok : BlkOk X.N X.env.scope sc own)
    (hg : ∀ (s : Shared) (H : Hp) (c : Addr) (cl : List (Str × Addr)) (fp : List Addr), PG (X.blk s H sc (compEnvC sc cl c X.env) fp) tg g)
    (ht : ∀ (s : Shared) (H : Hp) (c : Addr) (cl : List (Str × Addr)) (fp : List Addr), PTs (X.blk s H sc (compEnvC sc cl c X.env) fp) ifs tt)
    (he : ∀ (s : Shared) (H : Hp) (c : Addr) (cl : List (Str × Addr)) (fp : List Addr), PE (X.blk s H sc (compEnvC sc cl c X.env) fp) elt te) (hs : ∀ x, foldedSetIterable iter X.env x = pure x)
    (h : tLc (iList X.K tl) g tt te (own.map (·.2)) σ H Q)
    (fin : ∀ Dl c t m G, Inv X pins σ G t → Q (.ref Dl) G → t.heap.Ns c m → FpOk X pins G c → compPost (model X.prog X.w) X.A X.xe use Qf (.ref Dl) c (.ok .next) t) :
    wpAny (model X.prog X.w) X.A (comprehension (.ListComp elt [⟨tg, iter, ifs, 0⟩] sc pos) sc X.env pos2 (newList []) false (eval iter X.env) use) Qf X.xe s := by
  have hfree := compE_kinds ok I.ok
  refine wpAny_comprehension_free (use := use) rfl hs (closure_ok hfree) ok.kind (fun y hy e => by rw [ok.uniq y hy, e]) (thn (hl.run pins s σ H _ I h) fun v s1 ⟨x, H1, I1, r1, q1⟩ => ?_)
  obtain ⟨a, e, ⟨xs0, hq0⟩, q⟩ := q1
  subst e
  cases r1
  obtain ⟨its0, rv0, p0, _⟩ := I1.list hq0
  refine wpAny_pyIter_list p0.isList ?_
  -- the iterator
  generalize hs2 : ({ s1 with heap := s1.heap.push _ } : Shared) = s2
  have h2 : s2.heap = s1.heap.push { cls := .type "list_iterator", data := .fields #[.ref a, .int 0 0] } := by rw [← hs2]
  generalize hit : s1.heap.objs.size = it
  have k12 : ∀ b o, s1.heap.get? b = some o → s2.heap.get? b = some o := fun b o e => by rw [h2]; exact Heap.get?_push_of_some _ e
  have I2 : Inv X pins σ H1 s2 := by rw [← hs2]; exact I1.kept (t' := s1.toks) fun b o e => Heap.get?_push_of_some _ e
  have f2 : FpOk X pins H1 it := I1.fpOk (Nat.le_of_eq hit) (I1.hok.fresh (Nat.le_of_eq hit))
  have t2 : s2.heap.IsListIter it a 0 := by rw [h2, ← hit]; exact ⟨_, Heap.get?_push_size _ rfl, rfl, rfl⟩
  -- the new list
  refine wpAny_newObj_type (newEnv_comp ?_) (by show 0 ≤ sizeLine; decide)
  generalize hD : s2.heap.objs.size = Dl
  obtain ⟨W, ⟨m0, w0⟩, turn⟩ := q Dl (I2.hok.fresh (Nat.le_of_eq hD))
  generalize hs3 : ({ s2 with heap := s2.heap.push { cls := .type "list", data := .seq ([] : List Value).toArray } } : Shared) = s3
  have h3 : s3.heap = s2.heap.push { cls := .type "list", data := .seq ([] : List Value).toArray } := by rw [← hs3]
  have k23 : ∀ b o, s2.heap.get? b = some o → s3.heap.get? b = some o := fun b o e => by rw [h3]; exact Heap.get?_push_of_some _ e
  have I3 : Inv X pins σ (upd H1 Dl (.lst [])) s3 := by
    rw [← hs3]
    refine I2.laid (t' := s2.toks) (fun b o e => Heap.get?_push_of_some _ e) (Nat.le_of_eq hD) ⟨Nat.zero_le _, [], 0, .nil, ?_⟩
    rw [← hD]
    exact Heap.get?_push_size _ rfl
  obtain ⟨oi, ei, _⟩ := id t2
  have lti : it < s2.heap.objs.size := Heap.lt_size ei
  have t3 : s3.heap.IsListIter it a 0 := t2.at fun o e => k23 _ _ e
  have nDi : it ≠ Dl := by rw [← hD]; exact Nat.ne_of_lt lti
  have f3 : ∀ b ∈ [it], FpOk X pins (upd H1 Dl (.lst [])) b ∧ b < s3.heap.objs.size := fun b hb => by
    have e : b = it := by simpa using hb
    subst e
    exact ⟨⟨by rw [upd_ne nDi]; exact f2.1, f2.2⟩, by rw [h3, Heap.size_push]; exact Nat.lt_succ_of_lt lti⟩
  -- the exception at hand
  obtain ⟨⟨z, oz⟩, ⟨hh, vz, d1, d2⟩, hzm⟩ := hc
  obtain ⟨z1, z2, z3, z4, z5⟩ := I3.pin (z, oz) (List.mem_append_left _ hzm)
  have z1 : s3.heap.get? z = some oz := z1
  have z2 : (upd H1 Dl (.lst [])) z = none := z2
  have nzi : z ≠ it := f2.2.2.2.2.2 (z, oz) (List.mem_append_left _ hzm)
  have z6 : z ∉ frs X.stack := fun hm => by
    rcases List.mem_cons.mp (I3.stkSub z hm) with k | k
    · exact z3 k
    · exact z4 k
  have I4 := block_start I3 ok nd f3
  have pg := hg s3 (upd H1 Dl (.lst [])) s3.heap.objs.size (cellsFrom (s3.heap.objs.size + 1) sc.names (cloFrom X.env.cells sc.names [])) [it]
  have pt := ht s3 (upd H1 Dl (.lst [])) s3.heap.objs.size (cellsFrom (s3.heap.objs.size + 1) sc.names (cloFrom X.env.cells sc.names [])) [it]
  have pe := he s3 (upd H1 Dl (.lst [])) s3.heap.objs.size (cellsFrom (s3.heap.objs.size + 1) sc.names (cloFrom X.env.cells sc.names [])) [it]
  show codeAny _ _ (.compStart (.ListComp elt [⟨tg, iter, ifs, 0⟩] sc pos) 0 (.ref it) (.ref Dl) (compEnvC sc (cellsFrom (s3.heap.objs.size + 1) sc.names (cloFrom X.env.cells sc.names [])) s3.heap.objs.size X.env)) (compPost (model X.prog X.w) X.A X.xe use Qf (.ref Dl) s3.heap.objs.size) { s3 with heap := pushCells (s3.heap.push { cls := .type "dict", data := .dict #[] }) sc.names }
  generalize hce : compEnvC sc (cellsFrom (s3.heap.objs.size + 1) sc.names (cloFrom X.env.cells sc.names [])) s3.heap.objs.size X.env = ce at I4 pg pt pe ⊢
  have cL : ce.locals = s3.heap.objs.size := by subst hce; rfl
  generalize hG : upd H1 Dl (.lst []) = G0 at I3 I4 pg pt pe w0 f3 z2
  generalize hs4 : ({ s3 with heap := pushCells (s3.heap.push { cls := .type "dict", data := .dict #[] }) sc.names } : Shared) = s4 at I4 ⊢
  have t4 : s4.heap.IsListIter it a 0 := t3.at fun o e => by rw [← hs4]; exact pushCells_keeps _ _ _ _ (Heap.get?_push_of_some _ e)
  have stat : ∀ {τ : L2.St} {G : Hp} {t : Shared}, Inv (X.blk s3 G0 sc ce [it]) [] τ G t → G it = none → ∀ b ∈ [it], FpOk (X.blk s3 G0 sc ce [it]) [] G b := fun {τ G t} J n b hb => by
    have e : b = it := by simpa using hb
    subst e
    exact ⟨n, (J.ok.exf b hb).1, J.ok.exfs b hb, .inl hb, fun x c e => (J.ok.exf b hb).2 x c e, fun p hp => absurd (show p ∈ ([] : List (Addr × Obj)) ++ [] from hp) (by simp)⟩
  have loop : codeAny (model X.prog X.w) X.A (.compLoop (.ListComp elt [⟨tg, iter, ifs, 0⟩] sc pos) 0 (.ref it) (.ref Dl) ce) (compPost (model X.prog X.w) X.A X.xe use Qf (.ref Dl) s3.heap.objs.size) s4 := by
    refine compLoop_any (fun n t => ∃ i G, Inv (X.blk s3 G0 sc ce [it]) [] (wipe σ (own.map (·.2))) G t ∧ t.heap.IsListIter it a i ∧ G it = none ∧ W i n G) ?_ m0 ⟨0, G0, I4, t4, (f3 it (by simp)).1.1, w0⟩
    rintro n s5 ⟨i, G5, I5, t5, n5, w5⟩
    obtain ⟨b0, b1, b2, b3, b4, b5⟩ := stat I5 n5 it (by simp)
    rcases turn i n G5 w5 with ⟨⟨xs, hq, hx⟩, qq⟩ | ⟨⟨xs, x, hq, hx⟩, Nx, hNx, step⟩
    · obtain ⟨its, rv, p, _⟩ := I5.list hq
      have hlen := rv.length
      have zz : s5.heap.get? z = some oz := I5.base.keep z oz z1 z2 z6 fun k => nzi (by simpa using k)
      refine nextL_end ⟨hh, oz, vz, zz, d1, d2⟩ nzi t5 p.isList (by simp; omega) fun h6 eb => ?_
      have I6 : Inv (X.blk s3 G0 sc ce [it]) [] (wipe σ (own.map (·.2))) G5 { s5 with heap := h6 } := I5.turned (t' := s5.toks) (fun b o hb e => eb b o hb e) b0 b1 b3 b4 b5
      have I7 : Inv X pins σ G5 { s5 with heap := h6 } := I3.call' (ch := [it]) I6.os I6.base I6.hok I6.bare fun b hb => ⟨(f3 b hb).1.2.2.2.1, (f3 b hb).1.2.1, (f3 b hb).1.2.2.2.2.1, (f3 b hb).1.2.2.2.2.2⟩
      have nC : G5 s3.heap.objs.size = none := by
        have k : G5 ce.locals = none := I6.free
        rw [cL] at k
        exact k
      obtain ⟨m, hn, _⟩ := I6.loc
      have hn : Heap.Ns h6 ce.locals m := hn
      rw [cL] at hn
      exact fin Dl s3.heap.objs.size _ m G5 I7 qq hn (I3.fpOk (Nat.le_refl _) nC)
    · obtain ⟨its, rv, p, _⟩ := I5.list hq
      obtain ⟨u, hu, ru⟩ := rv.get hx
      refine wpAny_pyNext_list_item t5 p.isList (x := u) (by simpa using hu) fun h6 t6 sb => ?_
      have I6 : Inv (X.blk s3 G0 sc ce [it]) [] (wipe σ (own.map (·.2))) G5 { s5 with heap := h6 } := I5.turned (t' := s5.toks) (fun b o hb e => (sb.2 b hb).trans e) b0 b1 b3 b4 b5
      obtain ⟨o6, y1, y2, y3⟩ := id t6
      refine go_of (s := { s5 with heap := h6 }) y1 y2 y3 (by decide) ?_
      have st6 := step x G5 ⟨rfl, fun ys hy => by rw [I5.list_inj hy hq]; exact hx⟩
      have I7 := I6.pinned (stat I6 n5) (fun b hb => by
        have e : b = it := by simpa using hb
        subst e
        exact ⟨o6, y1, fun v k => by rw [y3] at k; cases k⟩)
      refine thnF (pg.run _ _ _ G5 x u _ I7 ru st6) fun _ s8 ⟨τ, G8, I8, hw8, q8⟩ => ?_
      refine thnF (pt.run _ s8 τ G8 _ I8 q8) fun b s9 ⟨G9, I9, q9⟩ => ?_
      have back : ∀ {t : Shared} {G : Hp}, Inv (X.blk s3 G0 sc ce [it]) ([] ++ pinsAt [it] h6) τ G t → Nx G → ∃ m, m < n ∧ ∃ i G, Inv (X.blk s3 G0 sc ce [it]) [] (wipe σ (own.map (·.2))) G t ∧ t.heap.IsListIter it a i ∧ G it = none ∧ W i m G := fun {t G} J nx => by
        obtain ⟨m, hm, w'⟩ := hNx G nx
        have pin := J.pin (it, o6) (List.mem_append_right _ (List.mem_append_right _ (mem_pinsAt (List.mem_singleton.mpr rfl) y1)))
        have hl : (wipe σ (own.map (·.2))).length = τ.length := by rw [← hw8, wipe_length]
        refine ⟨m, hm, i + 1, G, (J.unpinned (pins := [])).weak hl (fun j v e => ?_), ⟨o6, pin.1, y2, y3⟩, pin.2.1, w'⟩
        rw [← hw8] at e
        exact (wipe_some e).1
      cases b with
      | false =>
        simp only [Bool.false_eq_true, if_false] at q9 ⊢
        exact back I9 q9
      | true =>
        simp only [if_true] at q9 ⊢
        refine thnF (pe.run _ s9 τ G9 _ I9 q9) fun y s10 ⟨yv, G10, I10, r10, acc, hD10, hz10, nx⟩ => ?_
        exact app_ok (X := X.blk s3 G0 sc ce [it]) I10 hD10 hz10 r10 fun s11 I11 => back I11 nx
  exact codeAny_compStart_list loop (wpAny_pyIter_listiter t4 loop)
/-- [elt for tg in iter if ..] there -/
theorem pe_lch {elt tg iter : Expr} {ifs : List Expr} {sc : Scope} {own : List (Str × Nat)} {pos : Pos} {tl : TE} {g : TG} {tt : TT} {te : TE} (hc : L2H.HotC X) (nd : X.N.Nodup) (hl : PE X iter tl) (ok : BlkOk X.N X.env.scope sc own)
    (hg : ∀ (s : Shared) (H : Hp) (c : Addr) (cl : List (Str × Addr)) (fp : List Addr), PG (X.blk s H sc (compEnvC sc cl c X.env) fp) tg g)
    (ht : ∀ (s : Shared) (H : Hp) (c : Addr) (cl : List (Str × Addr)) (fp : List Addr), PTs (X.blk s H sc (compEnvC sc cl c X.env) fp) ifs tt)
    (he : ∀ (s : Shared) (H : Hp) (c : Addr) (cl : List (Str × Addr)) (fp : List Addr), PE (X.blk s H sc (compEnvC sc cl c X.env) fp) elt te) (hs : ∀ x, foldedSetIterable iter X.env x = pure x) :
    PE X (.ListComp elt [⟨tg, iter, ifs, 0⟩] sc pos) (tLc (iList X.K tl) g tt te (own.map (·.2))) := by
  refine ⟨fun pins s σ H Q I h => ?_⟩
  rw [eval_ListComp]
  refine lch_core hc nd I hl ok hg ht he hs h fun Dl c t m G J q hn f => ⟨m, hn, fun h2 sb => ?_⟩
  obtain ⟨f0, f1, f2, f3, f4, f5⟩ := f
  exact ⟨.ref Dl, G, J.turned (t' := t.toks) (fun b o hb e => (sb.2 b hb).trans e) f0 f1 f3 f4 f5, rfl, q⟩
end
end PL
end
section
set_option Elab.async false
set_option linter.all false
set_option maxHeartbeats 2000000
/-! PL19: the checker is sound: expressions, the induction. -/
namespace PL
open PySem PySem.Spec PyProof.Rows L2 LamX
section
variable {tb : Tb} {C : Cfg} {fx : Fx} {lev : Nat} {N : List Str} {Z : XW} {sc : Scope} {X : Cx} {f g : Env → M D} {e : Expr} {es : List Expr} {op : BoolOp}
theorem Cty.blk (c : Cty tb C fx lev N Z sc X) {s : Shared} {H : Hp} {scope : Scope} {Cc : Addr} {cl : List (Str × Addr)} {fp : List Addr} (hk : scope.kind = .function) : Lvl tb.inn C fx lev N ZF (relS scope sc) (X.blk s H scope (compEnvC scope cl Cc X.env) fp) where
  hK := c.hK
  calm := c.calm
  room := c.room
  uni := c.uni
  eis := fun z => nomatch z
  efld := fun z => nomatch z
  lam := fun z => nomatch z
  hotc := fun z => nomatch z
  hN := c.hN
  nd := c.nd
  hsc := by rw [← c.hsc]; rfl
  tk := fun u s' ⟨a, B, sI, pins, σ, H, cls, d, e, I, nb, up, sky, na, os, ag, w⟩ => by
    obtain ⟨_, _, _, _, _, _, z⟩ := w
    exact z.elim
  free := c.free
  fcf := c.fcf
  glo := c.glo
  cf := c.cf
  nm := c.nm
  inj := c.inj
  fdf := c.fdf
  cls := c.cls
  isC := c.isC
  nod := c.nod
  rz := c.rz
  rz0 := c.rz0
theorem Cty.lvl (c : Cty tb C fx lev N Z sc X) (h : tb.lv = false) : Lvl tb C fx lev N Z sc X := { c with eis := fun z => absurd (h.symm.trans z) Bool.false_ne_true, efld := fun z => absurd (h.symm.trans z) Bool.false_ne_true, lam := fun z => absurd (h.symm.trans z) Bool.false_ne_true, hotc := fun z => absurd (h.symm.trans z) Bool.false_ne_true }
theorem lookup_keep {names : List (Str × NameKind)} {x : Str} {k : NameKind} {sc : Scope} (hk : k ≠ .free) (h : names.lookup x = some k) :
    (names.map fun (n, k) => if (k == .free && sc.kind == .function && sc.names.lookup n == some .cell) then (n, NameKind.cell) else (n, k)).lookup x = some k := lookup_relS_keep hk h
theorem blk_tg (c : Cty tb C fx lev N Z sc X) {s : Shared} {H : Hp} {scope : Scope} {Cc : Addr} {cl : List (Str × Addr)} {fp : List Addr} {i : Nat} {x : Str} (h : sB N scope i x = true) :
    (X.blk s H scope (compEnvC scope cl Cc X.env) fp).N[i]? = some x ∧ Loc (X.blk s H scope (compEnvC scope cl Cc X.env) fp).env.scope x ∧ ((X.blk s H scope (compEnvC scope cl Cc X.env) fp).fn x = true ∨ (X.blk s H scope (compEnvC scope cl Cc X.env) fp).env.scope.names.lookup x = some .local) := by
  unfold sB at h
  obtain ⟨h1, h2⟩ := and3 h
  refine ⟨by show X.N[i]? = some x; rw [c.hN]; exact of_decide_eq_true h1, ?_⟩
  have e : (X.blk s H scope (compEnvC scope cl Cc X.env) fp).env.scope = relS scope X.env.scope := rfl
  rw [e]
  unfold locB at h2
  split at h2
  · rename_i q
    have := lookup_relS_keep (sc := X.env.scope) (k := .local) (by decide) q
    exact ⟨.inl this, .inr this⟩
  · rename_i q
    have := lookup_relS_keep (sc := X.env.scope) (k := .cell) (by decide) q
    exact ⟨.inr this, .inl (by show (scope.names.lookup x == some .cell) = true; rw [q]; rfl)⟩
  · cases h2
theorem PE.name {i : Nat} {x : Str} {p : Pos} (c : Cty tb C fx lev N Z sc X) (h : vB N sc i x = true) : PE X (.Name x p) (tVar i) := by
  obtain ⟨h1, h2, h3, h4⟩ := vB_ok c h
  exact pe_var h1 h2 h3 h4
theorem hot_read {i : Nat} {g : TG} {tt : TT} {te : TE} {own : List Nat} {σ : L2.St} {H : Hp} {Q : VK} (hK : X.K = fx.K) (h : tLc (TW fx Z (evI C (.v i))) g tt te own σ H Q) : tLc (iList X.K (tVar i)) g tt te own σ H Q := by
  obtain ⟨w, R, ρ, hh, fr, o⟩ := h
  have o : Out ((do let x ← getSl ρ i; match x with | .lst ds => M.ret ds | _ => M.fail) hh) _ (Z w R) := o
  unfold getSl at o
  cases e : ρ[i]? with
  | none => rw [e] at o; exact o.elim
  | some sl =>
    rw [e] at o
    cases sl with
    | val d =>
      cases d with
      | lst ds =>
        obtain ⟨v, e1, r⟩ := fr.sr.at_ i _ e
        obtain ⟨a, vs, e2, hq, rs⟩ := r
        subst e2
        have q := o w (Itl fx.K a) H (Wle.refl _) fr.hr (walk_lst (.inl (.inl hq)) rs)
        rw [hK]
        exact ⟨_, e1, a, rfl, ⟨vs, fr.hr.sF.seq (.inl (.inl hq))⟩, q⟩
      | _ => exact o.elim
    | _ => exact o.elim
theorem strEq {x y : Str} (h : (x == y) = true) : x = y := eq_of_beq h
theorem je_ite {c a b : Expr} {f g f3 : Env → M D} {pos : Pos} (zs : Std Z) (hc : PT X c (TB fx Z (tru f))) (ha : PE X a (TD fx Z g)) (hb : PE X b (TD fx Z f3)) :
    PE X (.IfExp c a b pos) (TD fx Z fun ρ => do let x ← f ρ; let k ← truth x; if k then g ρ else f3 ρ) := by
  refine PE.imp (pe_ifExp hc ha hb) fun σ H Q ⟨w, R, ρ, h, fr, o⟩ => ?_
  have o1 : Out (tru f ρ h) (fun k h1 => Out ((if k then g ρ else f3 ρ) h1) (PD fx Q w R) (Z w R)) (Z w R) := tru_out.mpr ((Out.bnd.mp o).imp (fun _ _ q => Out.bnd.mp q) fun _ _ z => z)
  refine TB.then zs fr o1 fun w1 H1 k h1 le fr1 q => ?_
  cases k with
  | true => exact iteT ⟨w1, R, ρ, h1, fr1, zle zs le (Out.imp q (fun _ _ p => p.le le) fun _ _ z => z)⟩
  | false => exact iteF ⟨w1, R, ρ, h1, fr1, zle zs le (Out.imp q (fun _ _ p => p.le le) fun _ _ z => z)⟩
theorem isT_ok {x : Ex} (h : isT x = true) : x = .c (.bl true) := by
  unfold isT at h
  split at h
  · rfl
  · cases h
theorem isNul_ok {x : Ex} (h : isNul x = true) : x = .nul := by cases x <;> first | rfl | (cases h)
theorem po_of {l : Option Expr} {lo : Ex} (zs : Std Z) (h : (match l with | none => isNul lo | some y => !isNul lo && chk tb N sc false lo (.e y)) = true) (ih : ∀ y, chk tb N sc false lo (.e y) = true → PE X y (TD fx Z (ev C lo))) :
    PO X l (TO' fx Z (endE (isNul lo) (ev C lo))) := by
  cases l with
  | none =>
    have h := isNul_ok h
    subst h
    exact jo_none
  | some y =>
    obtain ⟨h1, h2⟩ := and3 h
    rw [not_ok h1]
    exact jo_some zs (ih y h2)
theorem pl_L {l : Ex} {x : Expr} {env : PySem.Env} (h : chkL tb N sc l x = true) : ∀ whole, isTrue x env whole = (do let v ← whole; standAt x.pos; holding [v] (truthy v)) := by
  cases x with
  | UnaryOp _ _ _ => cases l <;> (have h : false = true := h; cases h)
  | BoolOp _ _ _ => cases l <;> (have h : false = true := h; cases h)
  | IfExp _ _ _ _ => cases l <;> (have h : false = true := h; cases h)
  | Compare _ _ _ _ => cases l <;> (have h : false = true := h; cases h)
  | _ => exact fun _ => rfl
theorem fold_ns {e : Expr} (h : nsS e = true) {env : PySem.Env} : ∀ x, foldedSetIterable e env x = pure x := fun x => by
  cases e <;> first | rfl | (cases h)
theorem allT_ns : ∀ {xs : List Ex} {es : List Expr}, chks tb N sc xs es = true → es.all (fun e => !isStar e) = true
  | [], [], _ => rfl
  | [], _ :: _, h => by have h : false = true := h; cases h
  | _ :: _, [], h => by have h : false = true := h; cases h
  | x :: xs, e :: es, h => by
    rw [chks] at h
    simp only [Bool.and_eq_true] at h
    rw [List.all_cons, allT_ns h.2, Bool.and_true]
    exact h.1.1
end
theorem JT {t : Bool} (fx : Fx) {Z : XW} {X : Cx} {g : Gl'} {f : Env → M D} {e : Expr} (h : nrm g = .e e) (j : Jn fx Z X t (.e e) f) : J fx Z X t g f := by unfold J; rw [h]; exact j
mutual
theorem sE {tb : Tb} {C : Cfg} {fx : Fx} {lev : Nat} {N : List Str} : ∀ (x : Ex) {Z : XW} {sc : Scope} {X : Cx} (zs : Std Z) (c : Lvl tb C fx lev N Z sc X) (t : Bool) (g : Gl'), chk tb N sc t x g = true → J fx Z X t g (ev C x)
  | .c d, Z, sc, X, zs, c, t, g, h => by
    rw [chk] at h; unfold J
    generalize nrm g = g' at h ⊢
    split at h
    · obtain ⟨v, p, r⟩ := conB_ok h
      exact jn_val zs c.hK t (je_c p r) fun _ => rfl
    · cases h
  | .v i, Z, sc, X, zs, c, t, g, h => by
    rw [chk] at h; unfold J
    generalize nrm g = g' at h ⊢
    split at h
    · obtain ⟨h1, h2, h3, h4⟩ := vB_ok c.toCty h
      exact jn_val zs c.hK t (je_var zs h1 h2 h3 h4) fun _ => rfl
    · cases h
  | .g n, Z, sc, X, zs, c, t, g, h => by
    rw [chk] at h; unfold J
    generalize nrm g = g' at h ⊢
    split at h
    · obtain ⟨h1, h2⟩ := and3 h
      obtain ⟨g1, g2⟩ := gB_ok c.toCty h1
      obtain ⟨d, v, u, e1, e2, r, rel⟩ := c.glo n _ (of_decide_eq_true h2)
      have q := fun p => je_c (fx := fx) (Z := Z) (pe_glob (X := X) (pos := p) g1 e2 r g2) rel
      have e3 : ev C (.g n) = fun _ => M.ret d := by funext ρ; show M.opt (C.glo n) = _; rw [e1]; rfl
      rw [e3]
      exact jn_val zs c.hK t (q _) fun _ => rfl
    · cases h
  | .bin op a b, Z, sc, X, zs, c, t, g, h => by
    rw [chk] at h; unfold J
    generalize nrm g = g' at h ⊢
    split at h
    · simp only [Bool.and_eq_true] at h
      obtain ⟨⟨⟨h1, h2⟩, h3⟩, h4⟩ := h
      have := of_decide_eq_true h1; subst this
      exact jn_val zs c.hK t (je_op op h2 zs c.hK (sE a zs c false _ h3).pe (sE b zs c false _ h4).pe) fun _ => rfl
    · cases h
  | .neg a, Z, sc, X, zs, c, t, g, h => by
    rw [chk] at h; unfold J
    generalize nrm g = g' at h ⊢
    split at h
    · exact jn_val zs c.hK t (je_neg zs (sE a zs c false _ h).pe) fun _ => rfl
    · cases h
  | .cmp op a b, Z, sc, X, zs, c, t, g, h => by
    rw [chk] at h; unfold J
    generalize nrm g = g' at h ⊢
    split at h
    · simp only [Bool.and_eq_true] at h
      obtain ⟨⟨⟨h1, h2⟩, h3⟩, h4⟩ := h
      have := of_decide_eq_true h1; subst this
      have ja := (sE a zs c false _ h3).pe
      have jb := (sE b zs c false _ h4).pe
      cases t with
      | false => exact je_cmp zs c.hK c.u64 (not_ok h2) ja jb
      | true => exact jt_cmp zs c.hK c.u64 (not_ok h2) ja jb
    · cases h
  | .chain o p a b d, Z, sc, X, zs, c, t, g, h => by
    rw [chk] at h; unfold J
    generalize nrm g = g' at h ⊢
    split at h
    · simp only [Bool.and_eq_true] at h
      obtain ⟨⟨⟨⟨⟨⟨h1, h2⟩, h3⟩, h4⟩, h5⟩, h6⟩, h7⟩ := h
      have := of_decide_eq_true h1; subst this
      have := of_decide_eq_true h2; subst this
      have ja := (sE a zs c false _ h5).pe
      have jb := (sE b zs c false _ h6).pe
      have jd := (sE d zs c false _ h7).pe
      have hl : ∀ y z, behindInMarks p z = false → lastMarks [o, p] [y, z] = false := fun _ _ h => h
      cases t with
      | false => exact je_chain zs c.hK c.u64 (not_ok h3) (not_ok h4) (hl _ _ (not_ok h4)) ja jb jd (pe_chain (op_cmp c.u64 o) (op_cmp c.u64 p) ja jb jd (hl _ _ (not_ok h4)))
      | true => exact jt_chain zs c.hK (pt_chain (op_cmp c.u64 o) (op_cmp c.u64 p) ja jb jd (hl _ _ (not_ok h4)))
    · cases h
  | .and_ a b, Z, sc, X, zs, c, t, g, h => by
    rw [chk] at h; unfold J
    generalize nrm g = g' at h ⊢
    split at h
    · obtain ⟨h1, h2⟩ := and3 h
      cases t with
      | false => exact je_and zs c.hK (sE a zs c false _ h1).pe ((sE b zs c false _ h2).b _)
      | true => exact (jw_and zs (sE a zs c true _ h1).pt ((sE b zs c true _ h2).w _)).pt
    · obtain ⟨h1, h2⟩ := and3 h
      cases t with
      | false => exact fun pos => je_and zs c.hK (sE a zs c false _ h1).pe ((sE b zs c false _ h2).b _)
      | true => exact fun pos => jw_and zs (sE a zs c true _ h1).pt ((sE b zs c true _ h2).w _)
    · cases h
  | .or_ a b, Z, sc, X, zs, c, t, g, h => by
    rw [chk] at h; unfold J
    generalize nrm g = g' at h ⊢
    split at h
    · obtain ⟨h1, h2⟩ := and3 h
      cases t with
      | false => exact je_or zs c.hK (sE a zs c false _ h1).pe ((sE b zs c false _ h2).b _)
      | true => exact (jw_or zs (sE a zs c true _ h1).pt ((sE b zs c true _ h2).w _)).pt
    · obtain ⟨h1, h2⟩ := and3 h
      cases t with
      | false => exact fun pos => je_or zs c.hK (sE a zs c false _ h1).pe ((sE b zs c false _ h2).b _)
      | true => exact fun pos => jw_or zs (sE a zs c true _ h1).pt ((sE b zs c true _ h2).w _)
    · cases h
  | .not_ a, Z, sc, X, zs, c, t, g, h => by
    rw [chk] at h; unfold J
    generalize nrm g = g' at h ⊢
    split at h
    · cases t with
      | false => exact je_not zs c.hK (sE a zs c false _ h).pe
      | true => exact jt_not zs (sE a zs c true _ h).pt
    · cases h
  | .ite d a b, Z, sc, X, zs, c, t, g, h => by
    rw [chk] at h; unfold J
    generalize nrm g = g' at h ⊢
    split at h
    · simp only [Bool.and_eq_true] at h
      obtain ⟨⟨⟨h1, h2⟩, h3⟩, h4⟩ := h
      have := not_ok h1; subst this
      exact je_ite zs (sE d zs c true _ h2).pt (sE a zs c false _ h3).pe (sE b zs c false _ h4).pe
    · cases h
  | .tup es, Z, sc, X, zs, c, t, g, h => by
    rw [chk] at h; unfold J
    generalize nrm g = g' at h ⊢
    split at h
    · exact jn_val zs c.hK t (je_tup zs (sA es zs c _ h)) fun _ => rfl
    · cases h
  | .ix a b, Z, sc, X, zs, c, t, g, h => by
    rw [chk] at h; unfold J
    generalize nrm g = g' at h ⊢
    split at h
    · simp only [Bool.and_eq_true] at h
      obtain ⟨⟨h1, h2⟩, h3⟩ := h
      exact jn_val zs c.hK t (je_ix zs c.hK (not_ok h1) (sE a zs c false _ h2).pe (sE b zs c false _ h3).pe) fun _ => rfl
    · cases h
  | .sl a lo hi, Z, sc, X, zs, c, t, g, h => by
    rw [chk] at h; unfold J
    generalize nrm g = g' at h ⊢
    split at h
    · simp only [Bool.and_eq_true] at h
      obtain ⟨⟨h1, h2⟩, h3⟩ := h
      exact jn_val zs c.hK t (je_sl zs c.hK (sE a zs c false _ h1).pe (po_of zs h2 fun y hy => (sE lo zs c false _ hy).pe) (po_of zs h3 fun y hy => (sE hi zs c false _ hy).pe)) fun _ => rfl
    · cases h
  | .isi ts one a, Z, sc, X, zs, c, t, g, h => by
    rw [chk] at h; unfold J
    generalize nrm g = g' at h ⊢
    split at h
    · simp only [Bool.and_eq_true] at h
      obtain ⟨⟨⟨⟨h1, h2⟩, h3⟩, h4⟩, h5⟩ := h
      have := strEq h1; subst this
      obtain ⟨g1, g2⟩ := bB_ok c.toCty h2
      have ja := (sE a zs c false _ h4).pe
      split at h5
      · obtain ⟨k1, k2⟩ := tyB_ok c.toCty h5
        exact jn_val zs c.hK t (je_isi1 (x := "") zs c.hK c.cf k1 g1 g2 (nsB_ok h3) ja k2) fun _ => rfl
      · obtain ⟨h5, h6⟩ := and3 h5
        obtain ⟨k1, k2⟩ := tysB_ok c.toCty h5
        exact jn_val zs c.hK t (je_isiT zs c.hK c.cf k1 (by simp) (by have := of_decide_eq_true h6; rw [List.length_cons]; omega) g1 g2 (nsB_ok h3) ja k2) fun _ => rfl
      · cases h5
    · cases h
  | .b1 k a, Z, sc, X, zs, c, t, g, h => by
    rw [chk] at h; unfold J
    generalize nrm g = g' at h ⊢
    split at h
    · simp only [Bool.and_eq_true] at h
      obtain ⟨⟨⟨⟨h0, h1⟩, h2⟩, h3⟩, h4⟩ := h
      have := strEq h1; subst this
      obtain ⟨g1, g2⟩ := bB_ok c.toCty h2
      exact jn_val zs c.hK t (je_b1k k zs c.hK (fun z => c.calm (by rw [z, Bool.or_false] at h0; exact not_ok h0)) c.nod g1 g2 (nsB_ok h3) (sE a zs c false _ h4).pe) fun _ => rfl
    · cases h
  | .b2 k a b, Z, sc, X, zs, c, t, g, h => by
    rw [chk] at h; unfold J
    generalize nrm g = g' at h ⊢
    split at h
    · simp only [Bool.and_eq_true] at h
      obtain ⟨⟨⟨⟨⟨⟨h0, h1⟩, h2⟩, h3⟩, h4⟩, h5⟩, h6⟩ := h
      have := strEq h1; subst this
      obtain ⟨g1, g2⟩ := bB_ok c.toCty h2
      exact jn_val zs c.hK t (je_b2k k zs (c.calm (not_ok h0)) g1 g2 (nsB_ok h3) (nsB_ok h4) (sE a zs c false _ h5).pe (sE b zs c false _ h6).pe) fun _ => rfl
    · cases h
  | .sm k a es, Z, sc, X, zs, c, t, g, h => by
    rw [chk] at h; unfold J
    generalize nrm g = g' at h ⊢
    split at h
    · simp only [Bool.and_eq_true] at h
      obtain ⟨⟨⟨⟨h1, h2⟩, h3⟩, h4⟩, h5⟩ := h
      have := strEq h1; subst this
      have ja := (sE a zs c false _ h4).pe
      split at h5
      · simp only [Bool.and_eq_true] at h5
        obtain ⟨⟨h5, h6⟩, h7⟩ := h5
        exact jn_val zs c.hK t (je_sm1k k h5 zs c.hK h2 (nsB_ok h6) h3 ja (sE _ zs c false _ h7).pe) fun _ => rfl
      · rw [Bool.or_eq_true] at h5
        rcases h5 with h5 | h5
        · have := of_decide_eq_true h5; subst this
          exact jn_val zs c.hK t (je_bits zs h2 h3 ja) fun _ => rfl
        · have := of_decide_eq_true h5; subst this
          exact jn_val zs c.hK t (je_upper zs h2 h3 ja) fun _ => rfl
      · cases h5
    · cases h
  | .js es, Z, sc, X, zs, c, t, g, h => by
    rw [chk] at h; unfold J
    generalize nrm g = g' at h ⊢
    split at h
    · exact jn_val zs c.hK t (je_js zs (sJ es zs c _ h)) fun _ => rfl
    · cases h
  | .fm a, Z, sc, X, zs, c, t, g, h => by
    rw [chk] at h; unfold J
    generalize nrm g = g' at h ⊢
    split at h
    · obtain ⟨h1, h2⟩ := and3 h
      obtain ⟨h0, h1⟩ := and3 h1
      have := of_decide_eq_true h1; subst this
      exact jn_val zs c.hK t (je_fm zs c.nod (c.calm (not_ok h0)) (sE a zs c false _ h2).pe) fun _ => rfl
    · cases h
  | .call f j es, Z, sc, X, zs, c, t, g, h => by
    rw [chk] at h; unfold J
    generalize nrm g = g' at h ⊢
    split at h
    · simp only [Bool.and_eq_true] at h
      obtain ⟨⟨⟨⟨h0, h1⟩, h2⟩, h3⟩, h4⟩ := h
      have rm := (c.room (not_ok h0)).mono (Nat.le_add_right lev 2)
      obtain ⟨g1, g2⟩ := gB_ok c.toCty h1
      have F := c.fcf f j _ (of_decide_eq_true h2) h3
      rename_i x _ ys _
      cases ys with
      | nil =>
        cases es with
        | nil => exact jn_val zs c.hK t (je_call0 zs F rm c.tk g1 g2) fun _ => rfl
        | cons _ _ => have h4 : false = true := h4; cases h4
      | cons y ys => exact jn_val zs c.hK t (je_call zs F rm c.tk g1 g2 (by simp) (allT_ns h4) (sA es zs c _ h4)) fun _ => rfl
    · cases h
  | .fld n a, Z, sc, X, zs, c, t, g, h => by
    rw [chk] at h; unfold J
    generalize nrm g = g' at h ⊢
    split at h
    · simp only [Bool.and_eq_true] at h
      obtain ⟨⟨⟨h1, h2⟩, h3⟩, h4⟩ := h
      have := of_decide_eq_true h1; subst this
      have F := c.fdf n h2
      have q := fun p => je_fld (pos := p) zs c.hK c.inj c.cf F h3 (sE a zs c false _ h4).pe
      rw [c.nm] at q
      exact jn_val zs c.hK t (q _) fun _ => rfl
    · cases h
  | .olen i, Z, sc, X, zs, c, t, g, h => by
    rw [chk] at h; unfold J
    generalize nrm g = g' at h ⊢
    split at h
    · simp only [Bool.and_eq_true] at h
      obtain ⟨⟨h1, h2⟩, h3⟩ := h
      have := strEq h1; subst this
      obtain ⟨g1, g2⟩ := bB_ok c.toCty h2
      exact jn_val zs c.hK t (je_olen c.hK g1 g2 rfl (PE.name c.toCty h3)) fun _ => rfl
    · cases h
  | .oix i a, Z, sc, X, zs, c, t, g, h => by
    rw [chk] at h; unfold J
    generalize nrm g = g' at h ⊢
    split at h
    · simp only [Bool.and_eq_true] at h
      obtain ⟨⟨h1, h2⟩, h3⟩ := h
      exact jn_val zs c.hK t (je_oix c.hK zs (not_ok h2) (PE.name c.toCty h1) (sE a zs c false _ h3).pe) fun _ => rfl
    · cases h
  | .oin neg a i, Z, sc, X, zs, c, t, g, h => by
    rw [chk] at h; unfold J
    generalize nrm g = g' at h ⊢
    split at h
    · simp only [Bool.and_eq_true] at h
      obtain ⟨⟨h1, h2⟩, h3⟩ := h
      have := of_decide_eq_true h1; subst this
      have ja := (sE a zs c false _ h3).pe
      cases t with
      | false => exact je_oin zs neg c.hK c.u64 rfl ja (PE.name c.toCty h2)
      | true => exact jt_oin zs neg c.hK c.u64 rfl ja (PE.name c.toCty h2)
    · cases h
  | .obool i, Z, sc, X, zs, c, t, g, h => by
    rw [chk] at h; unfold J
    generalize nrm g = g' at h ⊢
    split at h
    · obtain ⟨h1, h2⟩ := and3 h
      subst h1
      exact jt_obool c.hK (PE.name c.toCty h2) fun _ => rfl
    · cases h
  | .happ o a, Z, sc, X, zs, c, t, g, h => by
    rw [chk] at h; unfold J
    generalize nrm g = g' at h ⊢
    split at h
    · simp only [Bool.and_eq_true] at h
      obtain ⟨⟨⟨⟨⟨h1, h2⟩, h3⟩, h4⟩, h5⟩, h6⟩ := h
      have := strEq h1; subst this
      exact jn_val zs c.hK t (je_happ zs c.hK h2 (nsB_ok h3) h4 (sE o zs c false _ h5).pe (sE a zs c false _ h6).pe) fun _ => rfl
    · cases h
  | .hpop o, Z, sc, X, zs, c, t, g, h => by
    rw [chk] at h; unfold J
    generalize nrm g = g' at h ⊢
    split at h
    · simp only [Bool.and_eq_true] at h
      obtain ⟨⟨⟨h1, h2⟩, h3⟩, h4⟩ := h
      have := strEq h1; subst this
      exact jn_val zs c.hK t (je_hpop zs c.hK h2 h3 (sE o zs c false _ h4).pe) fun _ => rfl
    · cases h
  | .hpopat o a, Z, sc, X, zs, c, t, g, h => by
    rw [chk] at h; unfold J
    generalize nrm g = g' at h ⊢
    split at h
    · simp only [Bool.and_eq_true] at h
      obtain ⟨⟨⟨⟨⟨h1, h2⟩, h3⟩, h4⟩, h5⟩, h6⟩ := h
      have := strEq h1; subst this
      exact jn_val zs c.hK t (je_hpopat zs c.hK h2 (nsB_ok h3) h4 (sE o zs c false _ h5).pe (sE a zs c false _ h6).pe) fun _ => rfl
    · cases h
  | .hrev o, Z, sc, X, zs, c, t, g, h => by
    rw [chk] at h; unfold J
    generalize nrm g = g' at h ⊢
    split at h
    · simp only [Bool.and_eq_true] at h
      obtain ⟨⟨⟨h1, h2⟩, h3⟩, h4⟩ := h
      have := strEq h1; subst this
      exact jn_val zs c.hK t (je_hrev zs c.hK h2 h3 (sE o zs c false _ h4).pe) fun _ => rfl
    · cases h
  | .hclear o, Z, sc, X, zs, c, t, g, h => by
    rw [chk] at h; unfold J
    generalize nrm g = g' at h ⊢
    split at h
    · simp only [Bool.and_eq_true] at h
      obtain ⟨⟨⟨h1, h2⟩, h3⟩, h4⟩ := h
      have := strEq h1; subst this
      exact jn_val zs c.hK t (je_hclear zs c.hK h2 h3 (sE o zs c false _ h4).pe) fun _ => rfl
    · cases h
  | .d0, Z, sc, X, zs, c, t, g, h => by
    rw [chk] at h; unfold J
    generalize nrm g = g' at h ⊢
    split at h
    · exact jn_val zs c.hK t je_d0 fun _ => rfl
    · cases h
  | .fz l, Z, sc, X, zs, c, t, g, h => by
    rw [chk] at h; unfold J
    generalize nrm g = g' at h ⊢
    split at h
    · exact jn_val zs c.hK t (je_fz zs (sL l zs c _ h)) (pl_L h)
    · cases h
  | .hp l, Z, sc, X, zs, c, t, g, h => by
    rw [chk] at h; unfold J
    generalize nrm g = g' at h ⊢
    split at h
    · exact jn_val zs c.hK t (je_hp zs (sL l zs c _ h)) (pl_L h)
    · cases h
  | .nul, Z, sc, X, zs, c, t, g, h => by have h : false = true := h; cases h
  | .callk _ _ _ _, Z, sc, X, zs, c, t, g, h => by have h : false = true := h; cases h
  | .make _ _, Z, sc, X, zs, c, t, g, h => by have h : false = true := h; cases h
  | .makek _ _ _ _, Z, sc, X, zs, c, t, g, h => by have h : false = true := h; cases h
  | .meth _ _ _, Z, sc, X, zs, c, t, g, h => by have h : false = true := h; cases h
  | .prop _ _, Z, sc, X, zs, c, t, g, h => by have h : false = true := h; cases h
  | .lcall _, Z, sc, X, zs, c, t, g, h => by have h : false = true := h; cases h
  | .eis i k, Z, sc, X, zs, c, t, g, h => by
    rw [chk] at h; unfold J
    generalize nrm g = g' at h ⊢
    split at h
    · simp only [Bool.and_eq_true] at h
      obtain ⟨⟨⟨⟨⟨h1, h2⟩, h3⟩, h4⟩, h5⟩, h6⟩ := h
      have := strEq h2; subst this
      exact jn_val zs c.hK t (c.eis h1 i _ _ k _ _ _ _ h4 h5 h6 h3) fun _ => rfl
    · cases h
  | .efld i n, Z, sc, X, zs, c, t, g, h => by
    rw [chk] at h; unfold J
    generalize nrm g = g' at h ⊢
    split at h
    · simp only [Bool.and_eq_true] at h
      obtain ⟨⟨h1, h2⟩, h3⟩ := h
      have := of_decide_eq_true h3; subst this
      exact jn_val zs c.hK t (c.efld h1 i n _ _ _ h2) fun _ => rfl
    · cases h
  | .lam f a, Z, sc, X, zs, c, t, g, h => by
    rw [chk] at h; unfold J
    generalize nrm g = g' at h ⊢
    split at h
    · simp only [Bool.and_eq_true] at h
      obtain ⟨⟨⟨⟨⟨⟨h1, h2⟩, h3⟩, h4⟩, h5⟩, h6⟩, h7⟩ := h
      exact jn_val zs c.hK t (c.lam h1 (not_ok h2) f _ (ev C a) _ _ _ _ _ _ (of_decide_eq_true h4) h3 h5 h6 fun X' E c' => (sE a zc_std (c'.lvl rfl) false _ h7).pe) fun _ => rfl
    · cases h
  | .L _, Z, sc, X, zs, c, t, g, h => by have h : false = true := h; cases h
  | .Lcp _, Z, sc, X, zs, c, t, g, h => by have h : false = true := h; cases h
  | .Lr1 _, Z, sc, X, zs, c, t, g, h => by have h : false = true := h; cases h
  | .Lr2 _ _, Z, sc, X, zs, c, t, g, h => by have h : false = true := h; cases h
  | .Lc _ _ _ _ _, Z, sc, X, zs, c, t, g, h => by have h : false = true := h; cases h
  | .Lsl _ _ _, Z, sc, X, zs, c, t, g, h => by have h : false = true := h; cases h
  | .Lcat _ _, Z, sc, X, zs, c, t, g, h => by have h : false = true := h; cases h
  | .Lrep _ _, Z, sc, X, zs, c, t, g, h => by have h : false = true := h; cases h
  | .Lspl _ _, Z, sc, X, zs, c, t, g, h => by have h : false = true := h; cases h
  | .Il _, Z, sc, X, zs, c, t, g, h => by have h : false = true := h; cases h
  | .Ir1 _, Z, sc, X, zs, c, t, g, h => by have h : false = true := h; cases h
  | .Ir2 _ _, Z, sc, X, zs, c, t, g, h => by have h : false = true := h; cases h
  | .Ir3 _ _ _, Z, sc, X, zs, c, t, g, h => by have h : false = true := h; cases h
  | .Ien _, Z, sc, X, zs, c, t, g, h => by have h : false = true := h; cases h
  | .Izip _ _, Z, sc, X, zs, c, t, g, h => by have h : false = true := h; cases h
  | .bad, Z, sc, X, zs, c, t, g, h => by have h : false = true := h; cases h
theorem sL {tb : Tb} {C : Cfg} {fx : Fx} {lev : Nat} {N : List Str} : ∀ (x : Ex) {Z : XW} {sc : Scope} {X : Cx} (zs : Std Z) (c : Lvl tb C fx lev N Z sc X) (e : Expr), chkL tb N sc x e = true → PE X e (TC fx Z (evL C x))
  | .L es, Z, sc, X, zs, c, e, h => by
    rw [chkL, show wr e = e from rfl] at h
    split at h
    · exact jl_L zs (sA es zs c _ h)
    · cases h
  | .Lcp a, Z, sc, X, zs, c, e, h => by
    rw [chkL, show wr e = e from rfl] at h
    split at h
    · simp only [Bool.and_eq_true] at h
      obtain ⟨⟨⟨h1, h2⟩, h3⟩, h4⟩ := h
      have := strEq h1; subst this
      obtain ⟨g1, g2⟩ := bB_ok c.toCty h2
      exact jl_cp zs c.hK g1 g2 (nsB_ok h3) (sE a zs c false _ h4).pe
    · cases h
  | .Lr1 a, Z, sc, X, zs, c, e, h => by
    rw [chkL, show wr e = e from rfl] at h
    split at h
    · simp only [Bool.and_eq_true] at h
      obtain ⟨⟨⟨⟨⟨⟨h0, h1⟩, h2⟩, h3⟩, h4⟩, h5⟩, h6⟩ := h
      have := strEq h1; subst this
      have := strEq h3; subst this
      obtain ⟨g1, g2⟩ := bB_ok c.toCty h2
      obtain ⟨g3, g4⟩ := bB_ok c.toCty h4
      exact jl_r1 zs (c.calm (not_ok h0)) g3 g4 g1 g2 (nsB_ok h5) (sE a zs c false _ h6).pe
    · cases h
  | .Lr2 a b, Z, sc, X, zs, c, e, h => by
    rw [chkL, show wr e = e from rfl] at h
    split at h
    · simp only [Bool.and_eq_true] at h
      obtain ⟨⟨⟨⟨⟨⟨⟨⟨h0, h1⟩, h2⟩, h3⟩, h4⟩, h5⟩, h6⟩, h7⟩, h8⟩ := h
      have := strEq h1; subst this
      have := strEq h3; subst this
      obtain ⟨g1, g2⟩ := bB_ok c.toCty h2
      obtain ⟨g3, g4⟩ := bB_ok c.toCty h4
      exact jl_r2 zs (c.calm (not_ok h0)) g3 g4 g1 g2 (nsB_ok h5) (nsB_ok h6) (sE a zs c false _ h7).pe (sE b zs c false _ h8).pe
    · cases h
  | .Lc own tg it cond elt, Z, sc, X, zs, c, e, h => by
    rw [chkL, show wr e = e from rfl] at h
    split at h
    · simp only [Bool.and_eq_true] at h
      obtain ⟨⟨⟨⟨⟨⟨⟨⟨h1, h2⟩, h3⟩, h4⟩, h5⟩, h6⟩, h7⟩, h8⟩, h9⟩ := h
      rename_i e0 tgA itA ifs scope p
      have hk := of_decide_eq_true h3
      have ho := of_decide_eq_true h2
      have cb : ∀ (s : Shared) (H : Hp) (Cc : Addr) (cl : List (Str × Addr)) (fp : List Addr), Lvl tb.inn C fx lev N ZF (relS scope sc) (X.blk s H scope (compEnvC scope cl Cc X.env) fp) := fun s H Cc cl fp => c.toCty.blk hk
      have bk : BlkOk X.N X.env.scope scope (ownN N own) := by rw [c.hN, c.hsc]; exact blkOk_by h1
      have ht : ∀ (s : Shared) (H : Hp) (Cc : Addr) (cl : List (Str × Addr)) (fp : List Addr), PTs (X.blk s H scope (compEnvC scope cl Cc X.env) fp) ifs (TB fx ZF (tru (ev C cond))) := fun s H Cc cl fp => by
        split at h8
        · have := isT_ok h8; subst this
          exact jts_nil
        · exact pts_one (sE cond zf_std (cb s H Cc cl fp) true _ h8).pt
        · cases h8
      have he : ∀ (s : Shared) (H : Hp) (Cc : Addr) (cl : List (Str × Addr)) (fp : List Addr), PE (X.blk s H scope (compEnvC scope cl Cc X.env) fp) e0 (TD fx ZF (ev C elt)) := fun s H Cc cl fp => (sE elt zf_std (cb s H Cc cl fp) false _ h9).pe
      cases hot : tb.hot with
      | false =>
        have hcalm := c.calm hot
        rw [hot] at h7
        have h7 : chkI tb N sc it tgA itA = true := h7
        have hg : ∀ (s : Shared) (H : Hp) (Cc : Addr) (cl : List (Str × Addr)) (fp : List Addr), PG (X.blk s H scope (compEnvC scope cl Cc X.env) fp) tgA (gOf fx.K tg) := fun s H Cc cl fp => by
          rw [← c.hK]
          exact tgB_ok (X := X.blk s H scope (compEnvC scope cl Cc X.env) fp) hcalm (by show X.N.Nodup; rw [c.hN]; exact c.nd) (fun i x hh => blk_tg c.toCty hh) tg tgA h5
        have key := pe_lc (pos := p) hcalm (by rw [c.hN]; exact c.nd) (sI it zs c tgA itA h7) bk hg ht he (fold_ns h6)
        rw [ho] at key
        refine PE.imp key fun σ H Q hh => lc_read (gok_of tg) (fun i hi => of_decide_eq_true (List.all_eq_true.mp h4 i hi)) hh
      | true =>
        rw [hot] at h7
        obtain ⟨k1, k2⟩ := and3 (show (tb.lv && hotI N sc tg it itA) = true from h7)
        cases tg with
        | t _ => cases (show false = true from k2)
        | n j =>
          cases it with
          | v i =>
            cases itA with
            | Name y q =>
              have hg : ∀ (s : Shared) (H : Hp) (Cc : Addr) (cl : List (Str × Addr)) (fp : List Addr), PG (X.blk s H scope (compEnvC scope cl Cc X.env) fp) tgA (gOf fx.K (.n j)) := fun s H Cc cl fp => by
                cases tgA with
                | Name x2 q2 =>
                  obtain ⟨g1, g2, g3⟩ := blk_tg (s := s) (H := H) (Cc := Cc) (cl := cl) (fp := fp) c.toCty (show sB N scope j x2 = true from h5)
                  exact pg_name (by show X.N.Nodup; rw [c.hN]; exact c.nd) g1 g2 g3
                | _ => cases h5
              have key := pe_lch (pos := p) (c.hotc k1 hot) (by rw [c.hN]; exact c.nd) (PE.name (p := q) c.toCty (show vB N sc i y = true from k2)) bk hg ht he (fold_ns h6)
              rw [ho] at key
              refine PE.imp key fun σ H Q hh => hot_read c.hK (lc_read (gok_of (.n j)) (fun i hi => of_decide_eq_true (List.all_eq_true.mp h4 i hi)) hh)
            | _ => cases (show false = true from k2)
          | _ => cases (show false = true from k2)
    · cases h
  | .Lsl a lo hi, Z, sc, X, zs, c, e, h => by
    rw [chkL, show wr e = e from rfl] at h
    split at h
    · simp only [Bool.and_eq_true] at h
      obtain ⟨⟨h1, h2⟩, h3⟩ := h
      exact jl_sl zs c.hK (sE a zs c false _ h1).pe (po_of zs h2 fun y hy => (sE lo zs c false _ hy).pe) (po_of zs h3 fun y hy => (sE hi zs c false _ hy).pe)
    · cases h
  | .Lcat a b, Z, sc, X, zs, c, e, h => by
    rw [chkL, show wr e = e from rfl] at h
    split at h
    · obtain ⟨h1, h2⟩ := and3 h
      exact jl_cat zs (sE a zs c false _ h1).pe (sE b zs c false _ h2).pe
    · cases h
  | .Lrep a b, Z, sc, X, zs, c, e, h => by
    rw [chkL, show wr e = e from rfl] at h
    split at h
    · obtain ⟨h1, h2⟩ := and3 h
      exact jl_rep zs (sE a zs c false _ h1).pe (sE b zs c false _ h2).pe
    · cases h
  | .Lspl a b, Z, sc, X, zs, c, e, h => by
    rw [chkL, show wr e = e from rfl] at h
    split at h
    · simp only [Bool.and_eq_true] at h
      obtain ⟨⟨⟨⟨⟨h1, h2⟩, h3⟩, h4⟩, h5⟩, h6⟩ := h
      have := strEq h1; subst this
      exact jl_spl zs h2 (nsB_ok h3) h4 (sE a zs c false _ h5).pe (sE b zs c false _ h6).pe
    · cases h
  | .c _, Z, sc, X, zs, c, e, h => by have h : false = true := h; cases h
  | .v _, Z, sc, X, zs, c, e, h => by have h : false = true := h; cases h
  | .g _, Z, sc, X, zs, c, e, h => by have h : false = true := h; cases h
  | .bin _ _ _, Z, sc, X, zs, c, e, h => by have h : false = true := h; cases h
  | .neg _, Z, sc, X, zs, c, e, h => by have h : false = true := h; cases h
  | .cmp _ _ _, Z, sc, X, zs, c, e, h => by have h : false = true := h; cases h
  | .chain _ _ _ _ _, Z, sc, X, zs, c, e, h => by have h : false = true := h; cases h
  | .and_ _ _, Z, sc, X, zs, c, e, h => by have h : false = true := h; cases h
  | .or_ _ _, Z, sc, X, zs, c, e, h => by have h : false = true := h; cases h
  | .not_ _, Z, sc, X, zs, c, e, h => by have h : false = true := h; cases h
  | .ite _ _ _, Z, sc, X, zs, c, e, h => by have h : false = true := h; cases h
  | .tup _, Z, sc, X, zs, c, e, h => by have h : false = true := h; cases h
  | .ix _ _, Z, sc, X, zs, c, e, h => by have h : false = true := h; cases h
  | .sl _ _ _, Z, sc, X, zs, c, e, h => by have h : false = true := h; cases h
  | .nul, Z, sc, X, zs, c, e, h => by have h : false = true := h; cases h
  | .isi _ _ _, Z, sc, X, zs, c, e, h => by have h : false = true := h; cases h
  | .b1 _ _, Z, sc, X, zs, c, e, h => by have h : false = true := h; cases h
  | .b2 _ _ _, Z, sc, X, zs, c, e, h => by have h : false = true := h; cases h
  | .sm _ _ _, Z, sc, X, zs, c, e, h => by have h : false = true := h; cases h
  | .js _, Z, sc, X, zs, c, e, h => by have h : false = true := h; cases h
  | .fm _, Z, sc, X, zs, c, e, h => by have h : false = true := h; cases h
  | .call _ _ _, Z, sc, X, zs, c, e, h => by have h : false = true := h; cases h
  | .callk _ _ _ _, Z, sc, X, zs, c, e, h => by have h : false = true := h; cases h
  | .make _ _, Z, sc, X, zs, c, e, h => by have h : false = true := h; cases h
  | .makek _ _ _ _, Z, sc, X, zs, c, e, h => by have h : false = true := h; cases h
  | .meth _ _ _, Z, sc, X, zs, c, e, h => by have h : false = true := h; cases h
  | .prop _ _, Z, sc, X, zs, c, e, h => by have h : false = true := h; cases h
  | .fld _ _, Z, sc, X, zs, c, e, h => by have h : false = true := h; cases h
  | .lcall _, Z, sc, X, zs, c, e, h => by have h : false = true := h; cases h
  | .eis _ _, Z, sc, X, zs, c, e, h => by have h : false = true := h; cases h
  | .efld _ _, Z, sc, X, zs, c, e, h => by have h : false = true := h; cases h
  | .lam _ _, Z, sc, X, zs, c, e, h => by have h : false = true := h; cases h
  | .olen _, Z, sc, X, zs, c, e, h => by have h : false = true := h; cases h
  | .oix _ _, Z, sc, X, zs, c, e, h => by have h : false = true := h; cases h
  | .oin _ _ _, Z, sc, X, zs, c, e, h => by have h : false = true := h; cases h
  | .obool _, Z, sc, X, zs, c, e, h => by have h : false = true := h; cases h
  | .happ _ _, Z, sc, X, zs, c, e, h => by have h : false = true := h; cases h
  | .hpop _, Z, sc, X, zs, c, e, h => by have h : false = true := h; cases h
  | .hpopat _ _, Z, sc, X, zs, c, e, h => by have h : false = true := h; cases h
  | .hrev _, Z, sc, X, zs, c, e, h => by have h : false = true := h; cases h
  | .hclear _, Z, sc, X, zs, c, e, h => by have h : false = true := h; cases h
  | .d0, Z, sc, X, zs, c, e, h => by have h : false = true := h; cases h
  | .fz _, Z, sc, X, zs, c, e, h => by have h : false = true := h; cases h
  | .hp _, Z, sc, X, zs, c, e, h => by have h : false = true := h; cases h
  | .Il _, Z, sc, X, zs, c, e, h => by have h : false = true := h; cases h
  | .Ir1 _, Z, sc, X, zs, c, e, h => by have h : false = true := h; cases h
  | .Ir2 _ _, Z, sc, X, zs, c, e, h => by have h : false = true := h; cases h
  | .Ir3 _ _ _, Z, sc, X, zs, c, e, h => by have h : false = true := h; cases h
  | .Ien _, Z, sc, X, zs, c, e, h => by have h : false = true := h; cases h
  | .Izip _ _, Z, sc, X, zs, c, e, h => by have h : false = true := h; cases h
  | .bad, Z, sc, X, zs, c, e, h => by have h : false = true := h; cases h
theorem sI {tb : Tb} {C : Cfg} {fx : Fx} {lev : Nat} {N : List Str} : ∀ (x : Ex) {Z : XW} {sc : Scope} {X : Cx} (zs : Std Z) (c : Lvl tb C fx lev N Z sc X) (tg e : Expr), chkI tb N sc x tg e = true → PI X tg e (TW fx Z (evI C x))
  | .Il a, Z, sc, X, zs, c, tg, e, h => ji_any zs c.hK (sE a zs c false _ (by rw [chkI] at h; exact h)).pe
  | .Ir1 a, Z, sc, X, zs, c, tg, e, h => by
    rw [chkI, show wr e = e from rfl] at h
    split at h
    · simp only [Bool.and_eq_true] at h
      obtain ⟨⟨⟨h1, h2⟩, h3⟩, h4⟩ := h
      have := strEq h1; subst this
      obtain ⟨g1, g2⟩ := bB_ok c.toCty h2
      exact ji_rg1 zs g1 g2 (nsB_ok h3) (sE a zs c false _ h4).pe
    · cases h
  | .Ir2 a b, Z, sc, X, zs, c, tg, e, h => by
    rw [chkI, show wr e = e from rfl] at h
    split at h
    · simp only [Bool.and_eq_true] at h
      obtain ⟨⟨⟨⟨⟨h1, h2⟩, h3⟩, h4⟩, h5⟩, h6⟩ := h
      have := strEq h1; subst this
      obtain ⟨g1, g2⟩ := bB_ok c.toCty h2
      exact ji_rg2 zs g1 g2 (nsB_ok h3) (nsB_ok h4) (sE a zs c false _ h5).pe (sE b zs c false _ h6).pe
    · cases h
  | .c _, Z, sc, X, zs, c, tg, e, h => by have h : false = true := h; cases h
  | .v _, Z, sc, X, zs, c, tg, e, h => by have h : false = true := h; cases h
  | .g _, Z, sc, X, zs, c, tg, e, h => by have h : false = true := h; cases h
  | .bin _ _ _, Z, sc, X, zs, c, tg, e, h => by have h : false = true := h; cases h
  | .neg _, Z, sc, X, zs, c, tg, e, h => by have h : false = true := h; cases h
  | .cmp _ _ _, Z, sc, X, zs, c, tg, e, h => by have h : false = true := h; cases h
  | .chain _ _ _ _ _, Z, sc, X, zs, c, tg, e, h => by have h : false = true := h; cases h
  | .and_ _ _, Z, sc, X, zs, c, tg, e, h => by have h : false = true := h; cases h
  | .or_ _ _, Z, sc, X, zs, c, tg, e, h => by have h : false = true := h; cases h
  | .not_ _, Z, sc, X, zs, c, tg, e, h => by have h : false = true := h; cases h
  | .ite _ _ _, Z, sc, X, zs, c, tg, e, h => by have h : false = true := h; cases h
  | .tup _, Z, sc, X, zs, c, tg, e, h => by have h : false = true := h; cases h
  | .ix _ _, Z, sc, X, zs, c, tg, e, h => by have h : false = true := h; cases h
  | .sl _ _ _, Z, sc, X, zs, c, tg, e, h => by have h : false = true := h; cases h
  | .nul, Z, sc, X, zs, c, tg, e, h => by have h : false = true := h; cases h
  | .isi _ _ _, Z, sc, X, zs, c, tg, e, h => by have h : false = true := h; cases h
  | .b1 _ _, Z, sc, X, zs, c, tg, e, h => by have h : false = true := h; cases h
  | .b2 _ _ _, Z, sc, X, zs, c, tg, e, h => by have h : false = true := h; cases h
  | .sm _ _ _, Z, sc, X, zs, c, tg, e, h => by have h : false = true := h; cases h
  | .js _, Z, sc, X, zs, c, tg, e, h => by have h : false = true := h; cases h
  | .fm _, Z, sc, X, zs, c, tg, e, h => by have h : false = true := h; cases h
  | .call _ _ _, Z, sc, X, zs, c, tg, e, h => by have h : false = true := h; cases h
  | .callk _ _ _ _, Z, sc, X, zs, c, tg, e, h => by have h : false = true := h; cases h
  | .make _ _, Z, sc, X, zs, c, tg, e, h => by have h : false = true := h; cases h
  | .makek _ _ _ _, Z, sc, X, zs, c, tg, e, h => by have h : false = true := h; cases h
  | .meth _ _ _, Z, sc, X, zs, c, tg, e, h => by have h : false = true := h; cases h
  | .prop _ _, Z, sc, X, zs, c, tg, e, h => by have h : false = true := h; cases h
  | .fld _ _, Z, sc, X, zs, c, tg, e, h => by have h : false = true := h; cases h
  | .lcall _, Z, sc, X, zs, c, tg, e, h => by have h : false = true := h; cases h
  | .eis _ _, Z, sc, X, zs, c, tg, e, h => by have h : false = true := h; cases h
  | .efld _ _, Z, sc, X, zs, c, tg, e, h => by have h : false = true := h; cases h
  | .lam _ _, Z, sc, X, zs, c, tg, e, h => by have h : false = true := h; cases h
  | .olen _, Z, sc, X, zs, c, tg, e, h => by have h : false = true := h; cases h
  | .oix _ _, Z, sc, X, zs, c, tg, e, h => by have h : false = true := h; cases h
  | .oin _ _ _, Z, sc, X, zs, c, tg, e, h => by have h : false = true := h; cases h
  | .obool _, Z, sc, X, zs, c, tg, e, h => by have h : false = true := h; cases h
  | .happ _ _, Z, sc, X, zs, c, tg, e, h => by have h : false = true := h; cases h
  | .hpop _, Z, sc, X, zs, c, tg, e, h => by have h : false = true := h; cases h
  | .hpopat _ _, Z, sc, X, zs, c, tg, e, h => by have h : false = true := h; cases h
  | .hrev _, Z, sc, X, zs, c, tg, e, h => by have h : false = true := h; cases h
  | .hclear _, Z, sc, X, zs, c, tg, e, h => by have h : false = true := h; cases h
  | .d0, Z, sc, X, zs, c, tg, e, h => by have h : false = true := h; cases h
  | .fz _, Z, sc, X, zs, c, tg, e, h => by have h : false = true := h; cases h
  | .hp _, Z, sc, X, zs, c, tg, e, h => by have h : false = true := h; cases h
  | .L _, Z, sc, X, zs, c, tg, e, h => by have h : false = true := h; cases h
  | .Lcp _, Z, sc, X, zs, c, tg, e, h => by have h : false = true := h; cases h
  | .Lr1 _, Z, sc, X, zs, c, tg, e, h => by have h : false = true := h; cases h
  | .Lr2 _ _, Z, sc, X, zs, c, tg, e, h => by have h : false = true := h; cases h
  | .Lc _ _ _ _ _, Z, sc, X, zs, c, tg, e, h => by have h : false = true := h; cases h
  | .Lsl _ _ _, Z, sc, X, zs, c, tg, e, h => by have h : false = true := h; cases h
  | .Lcat _ _, Z, sc, X, zs, c, tg, e, h => by have h : false = true := h; cases h
  | .Lrep _ _, Z, sc, X, zs, c, tg, e, h => by have h : false = true := h; cases h
  | .Lspl _ _, Z, sc, X, zs, c, tg, e, h => by have h : false = true := h; cases h
  | .Ir3 _ _ _, Z, sc, X, zs, c, tg, e, h => by have h : false = true := h; cases h
  | .Ien _, Z, sc, X, zs, c, tg, e, h => by have h : false = true := h; cases h
  | .Izip _ _, Z, sc, X, zs, c, tg, e, h => by have h : false = true := h; cases h
  | .bad, Z, sc, X, zs, c, tg, e, h => by have h : false = true := h; cases h
theorem sA {tb : Tb} {C : Cfg} {fx : Fx} {lev : Nat} {N : List Str} : ∀ (xs : List Ex) {Z : XW} {sc : Scope} {X : Cx} (zs : Std Z) (c : Lvl tb C fx lev N Z sc X) (es : List Expr), chks tb N sc xs es = true → PA X es (TL fx Z (evs C xs))
  | [], Z, sc, X, zs, c, [], h => ja_nil
  | [], Z, sc, X, zs, c, _ :: _, h => by have h : false = true := h; cases h
  | _ :: _, Z, sc, X, zs, c, [], h => by have h : false = true := h; cases h
  | x :: xs, Z, sc, X, zs, c, e :: es, h => by
    rw [chks] at h
    simp only [Bool.and_eq_true] at h
    exact ja_cons zs (nsB_ok h.1.1) (sE x zs c false _ h.1.2).pe (sA xs zs c es h.2)
theorem sJ {tb : Tb} {C : Cfg} {fx : Fx} {lev : Nat} {N : List Str} : ∀ (xs : List Ex) {Z : XW} {sc : Scope} {X : Cx} (zs : Std Z) (c : Lvl tb C fx lev N Z sc X) (es : List Expr), chks tb N sc xs es = true → JJ fx Z X es (evJ C xs)
  | [], Z, sc, X, zs, c, [], h => jj_nil
  | [], Z, sc, X, zs, c, _ :: _, h => by have h : false = true := h; cases h
  | _ :: _, Z, sc, X, zs, c, [], h => by have h : false = true := h; cases h
  | x :: xs, Z, sc, X, zs, c, e :: es, h => by
    rw [chks] at h
    simp only [Bool.and_eq_true] at h
    exact jj_cons zs (sE x zs c false _ h.1.2).pe (sJ xs zs c es h.2)
end
end PL
end
section
set_option Elab.async false
set_option linter.all false
set_option maxHeartbeats 2000000
/-! PL20: the checker of statements, and that it is sound. -/
namespace PL
open PySem PySem.Spec PyProof.Rows L2
def isFz : St → Bool
  | .fzs _ => true
  | _ => false
def isComp : Expr → Bool
  | .ListComp _ _ _ _ => true
  | .SetComp _ _ _ _ => true
  | .DictComp _ _ _ _ _ => true
  | _ => false
/-- a comprehension whose name is stored within its frame -/
def swB (sc : Scope) (y : Str) (py : Pos) : Expr → Bool
  | .ListComp _ _ s p => isLoc sc y && (py.line == p.line) && !(s.names.any fun (n, k) => n == y && (k == .local || k == .cell))
  | _ => false
def isTup : Expr → Bool
  | .Tuple _ _ _ => true
  | .List _ _ => true
  | _ => false
/-- the places of a pair's plain local names -/
def namesOf (sc : Scope) (ts : List Expr) : List Str :=
  let line := (ts.head?.map (·.pos.line)).getD 0
  ts.filterMap fun
    | .Name id pos => if sc.names.lookup id == some .local && pos.line == line then some id else none
    | _ => none
/-- such a pair is not stored by names -/
def noSwap (sc : Scope) (ts vs : List Expr) : Bool :=
  !(ts.length == 2 || ts.length == 3) || (namesOf sc ts).length != ts.length || vs.all (foldedForSure 8)
/-- .. it is -/
def doSwap (sc : Scope) (x y : Str) (px py : Pos) (a b : Expr) : Bool :=
  isLoc sc x && isLoc sc y && (px.line == py.line) && !(x == y) && !([a, b].all (foldedForSure 8)) && !([a, b].all (constantsAlone 8))
def swOk (sc : Scope) (tg e : Expr) : Bool := match tg, e with
  | .Tuple ts _ _, .Tuple vs _ _ => noSwap sc ts vs
  | .Tuple _ _ _, _ => true
  | .Subscript _ _ _, _ => true
  | _, _ => false
mutual
def chS (tb : Tb) (N : List Str) (sc : Scope) : St → Stmt → Bool
  | .expr e, s => (match s with
    | .Expr x p => !isComp x && chk tb N sc false e (.e x)
    | _ => false)
  | .pass, s => (match s with
    | .Expr (.Constant (.str _) _ _) _ => true
    | .Pass _ => true
    | _ => false)
  | .ret e, s => (match s with
    | .Return (some x) p => chk tb N sc false e (.e x)
    | _ => false)
  | .retN, s => (match s with
    | .Return none p => true
    | _ => false)
  | .iff t a b, s => (match s with
    | .If x xs ys p => chk tb N sc true t (.e x) && chSs tb N sc a xs && chSs tb N sc b ys
    | _ => false)
  | .whl t b, s => (match s with
    | .While x xs [] p => chk tb N sc true t (.e x) && chSs tb N sc b xs
    | _ => false)
  | .fr tg it b, s => (match s with
    | .For t x xs [] p => (!tb.hot) && tgB N sc tg t && nsS x && chkI tb N sc it t x && chSs tb N sc b xs
    | _ => false)
  | .set i e, s => (match s with
    | .Assign [.Name x q] v p => sB N sc i x && (if isComp v then (match e with
        | .fz l => (!tb.hot) && swB sc x q v && isLoc sc x && chkL tb N sc l v
        | .hp l => (!tb.hot) && swB sc x q v && isLoc sc x && chkL tb N sc l v
        | _ => false) else chk tb N sc false e (.e v))
    | _ => false)
  | .setT tg e, s => (match s with
    | .Assign [t] v p => (!tb.hot) && tgB N sc tg t && !isComp v && swOk sc t v && chk tb N sc false e (.e v)
    | _ => false)
  | .par i j a b, s => (match s with
    | .Assign [.Tuple [.Name x px, .Name y py] kt pt] (.Tuple [v, u] k2 p2) p => (!tb.hot) && nB N i x && nB N j y && decide (i ≠ j) && doSwap sc x y px py v u && nsB v && nsB u && chk tb N sc false a (.e v) && chk tb N sc false b (.e u)
    | _ => false)
  | .own i l, s => (match s with
    | .Assign [.Name x q] v p => sB N sc i x && (if isComp v then (!tb.hot) && swB sc x q v && isLoc sc x else true) && chkL tb N sc l v
    | _ => false)
  | .owd i, s => (match s with
    | .Assign [.Name x q] (.Dict [] [] _) p => sB N sc i x
    | _ => false)
  | .oapp i e, s => (match s with
    | .Expr (.Call (.Attribute (.Name x q) n ap) [y] [] p) _ => (n == "append") && vB N sc i x && nsB y && linB ap p && chk tb N sc false e (.e y)
    | _ => false)
  | .oset i a e, s => (match s with
    | .Assign [.Subscript (.Name x q) y tp] v p => vB N sc i x && !isSlice y && !isComp v && chk tb N sc false a (.e y) && chk tb N sc false e (.e v)
    | _ => false)
  | .hset o a e, s => (match s with
    | .Assign [.Subscript x y tp] v p => !isSlice y && !isComp v && chk tb N sc false o (.e x) && chk tb N sc false a (.e y) && chk tb N sc false e (.e v)
    | _ => false)
  | .rais c es, s => (match s with
    | .Raise (some (.Call (.Name x q) [y] [] p)) none p2 => (!tb.hot) && gB sc x && isB (tb.cl c) x && (match es, y with
        | [e], y => tb.r1 c && nsB y && chk tb N sc false e (.e y)
        | [], .Constant (.str _) _ _ => tb.r0 c
        | _, _ => false)
    | _ => false)
  | .brk, s => (match s with
    | .Break _ => true
    | _ => false)
  | .cont, s => (match s with
    | .Continue _ => true
    | _ => false)
  | .bad, _ => true
  | _, _ => false
def chSs (tb : Tb) (N : List Str) (sc : Scope) : List St → List Stmt → Bool
  | [], ss => (match ss with
    | [] => true
    | _ => false)
  | x :: xs, ss => (match isFz x with
    | true => chSs tb N sc xs ss
    | false => (match ss with
      | [] => false
      | s :: r => chS tb N sc x s && chSs tb N sc xs r))
end
section
variable {env : PySem.Env} {e tg : Expr} {sc : Scope}
theorem sw_ns {t : Option Expr} {l : Nat} (h : isComp e = false) : swapsWith e t l env = pure false := by
  cases e <;> first | rfl | cases h
theorem sole_ns {l : Nat} (h : isComp e = false) : swapsWithSole [tg] e l env = pure false := sw_ns h
theorem names_eq {ts : List Expr} : (ts.filterMap fun
    | .Name id pos => if env.kindOf id == some .local && pos.line == (ts.head?.map (·.pos.line)).getD 0 then some id else none
    | _ => none) = namesOf env.scope ts := rfl
theorem bk_fn (h : env.scope.kind = .function) : env.blockKind = .function := by
  unfold Env.blockKind
  rw [h]
  rfl
theorem sws_none {ts vs : List Expr} {k k2 : Nat} {p p2 : Pos} (hk : env.scope.kind = .function) (h : noSwap env.scope ts vs = true) : swappedStores [.Tuple ts k p] (.Tuple vs k2 p2) env = pure none := by
  unfold swappedStores
  simp only []
  unfold noSwap at h
  simp only [Bool.or_eq_true] at h
  split
  · rfl
  · rename_i c1
    split
    · rfl
    · rename_i c2
      split
      · rfl
      · rename_i c3
        split
        · rfl
        · rename_i c4
          exfalso
          rcases h with (h | h) | h
          · exact c1 (by rw [h]; rfl)
          · exact c3 (by rw [Bool.or_eq_true]; exact .inl h)
          · exact c4 h
theorem isLoc_ok {x : Str} (h : isLoc sc x = true) : sc.names.lookup x = some .local := by
  unfold isLoc at h
  split at h
  · assumption
  · cases h
theorem sws_some {x y : Str} {px py : Pos} {a b : Expr} {k k2 : Nat} {p p2 : Pos} (hk : env.scope.kind = .function) (sa : isStar a = false) (sb : isStar b = false) (h : doSwap env.scope x y px py a b = true) :
    swappedStores [.Tuple [.Name x px, .Name y py] k p] (.Tuple [a, b] k2 p2) env = pure (some [x, y]) := by
  unfold doSwap at h
  simp only [Bool.and_eq_true, Bool.not_eq_true'] at h
  obtain ⟨⟨⟨⟨⟨h1, h2⟩, h3⟩, h4⟩, h5⟩, h6⟩ := h
  have l1 := isLoc_ok h1
  have l2 := isLoc_ok h2
  have e3 := eq_of_beq h3
  have nm : ([.Name x px, .Name y py] : List Expr).filterMap (fun
    | .Name id pos => if env.kindOf id == some .local && pos.line == (([.Name x px, .Name y py] : List Expr).head?.map (·.pos.line)).getD 0 then some id else none
    | _ => none) = [x, y] := by
    have k1 : env.kindOf x = some .local := l1
    have k2 : env.kindOf y = some .local := l2
    have q1 : (Expr.Name x px).pos = px := rfl
    simp only [List.filterMap_cons, List.filterMap_nil, k1, k2, List.head?_cons, Option.map_some, Option.getD_some, q1, e3, beq_self_eq_true, Bool.and_self, if_true]
  have st : ([a, b] : List Expr).any (fun | .Starred .. => true | _ => false) = false := by
    have z : ∀ c : Expr, isStar c = false → (match c with | .Starred .. => true | _ => false) = false := fun c hc => by cases c <;> first | rfl | cases hc
    rw [List.any_cons, List.any_cons, List.any_nil, z a sa, z b sb]; rfl
  have ne : ¬ x = y := fun z => by rw [z] at h4; simp at h4
  have key : namesOf env.scope [.Name x px, .Name y py] = [x, y] := nm
  unfold swappedStores
  simp only []
  split
  · rename_i c1
    rw [bk_fn hk] at c1
    simp at c1
  · split
    · rename_i c2
      exact absurd (st.symm.trans c2) (by decide)
    · split
      · rename_i c3
        have c3' : ((namesOf env.scope [.Name x px, .Name y py]).length != ([.Name x px, .Name y py] : List Expr).length || (namesOf env.scope [.Name x px, .Name y py]).eraseDups.length != (namesOf env.scope [.Name x px, .Name y py]).length) = true := c3
        rw [key] at c3'
        have e2 : ([x, y] : List Str).eraseDups = [x, y] := by
          have q : (y == x) = false := by simpa using fun z => ne z.symm
          simp [List.eraseDups_cons, q]
        rw [e2] at c3'
        simp at c3'
      · split
        · rename_i c4
          rw [h5] at c4; cases c4
        · split
          · rename_i c5
            rw [h6] at c5; cases c5
          · exact congrArg (fun l => (pure (some l) : Sem (Option (List Str)))) key
theorem swOk_ok (hk : env.scope.kind = .function) (h : swOk env.scope tg e = true) : swappedStores [tg] e env = pure none := by
  unfold swOk at h
  split at h
  · exact sws_none hk h
  · rename_i hne
    unfold swappedStores
    cases e <;> first | rfl | exact absurd rfl (hne _ _ _)
  · unfold swappedStores
    cases e <;> rfl
  · cases h
end
end PL
end
section
set_option Elab.async false
set_option linter.all false
set_option maxHeartbeats 2000000
/-! PL21: the checker is sound: statements. -/
namespace PL
open PySem PySem.Spec PyProof.Rows L2
section
variable {tb : Tb} {C : Cfg} {fx : Fx} {lev : Nat} {N : List Str} {Z : XW} {sc : Scope} {X : Cx} {R0 : Hp} {f g : Env → M D} {fl : Env → M (List D)} {e tg : Expr} {es : List Expr} {σ : L2.St} {H : Hp} {Q : VK}
theorem fz_read (hh : TD fx Z (fun ρ => do let ds ← fl ρ; pure (.lst ds)) σ H Q) : TC fx Z fl σ H Q := by
  obtain ⟨w, R, ρ, h, fr, o⟩ := hh
  exact ⟨w, R, ρ, h, fr, (Out.bnd.mp o).imp (fun ds h1 q => pc_fz q) fun _ _ z => z⟩
theorem hp_read (hh : TD fx Z (fun ρ => do let ds ← fl ρ; alloc (.lst ds)) σ H Q) : TC fx Z fl σ H Q := by
  obtain ⟨w, R, ρ, h, fr, o⟩ := hh
  refine ⟨w, R, ρ, h, fr, (Out.bnd.mp o).imp (fun ds h1 q => ?_) fun _ _ z => z⟩
  have q : PD fx Q w R (.ref h1.nx) (h1.new (.lst ds)) := q
  intro w' p vs H' le hn hr rs
  obtain ⟨r1, le1⟩ := hr.adopt (c := .lst ds) hn ⟨vs, rfl, rs⟩
  exact q _ _ H' (le.trans le1) r1 ⟨p, rfl, by show (if h1.nx = h1.nx then some p else _) = _; rw [if_pos rfl]⟩
theorem comp_Lc {l : Ex} (h : chkL tb N sc l e = true) (hv : isComp e = true) : ∃ own tg it cond elt, l = .Lc own tg it cond elt := by
  cases l with
  | Lc own tg it cond elt => exact ⟨_, _, _, _, _, rfl⟩
  | _ =>
    cases e with
    | ListComp _ _ _ _ => have h : false = true := h; cases h
    | SetComp _ _ _ _ => have h : false = true := h; cases h
    | DictComp _ _ _ _ _ => have h : false = true := h; cases h
    | _ => cases hv
/-- name = [.. for ..]: stored within the comprehension's frame -/
theorem asg_Lc {l : Ex} {i : Nat} {x : Str} {q p : Pos} (zs : Std Z) (c : Ctx tb C fx lev N Z sc X) (hh : tb.hot = false) (h : chkL tb N sc l e = true) (hv : isComp e = true) (hi : X.N[i]? = some x) (hx : isLoc sc x = true) (hw : swB sc x q e = true) :
    PS X (.Assign [.Name x q] e p) (tAsg (TC fx Z (evL C l)) (gName i)) := by
  obtain ⟨own, tg, it, cond, elt, rfl⟩ := comp_Lc h hv
  rw [chkL, show wr e = e from rfl] at h
  split at h
  · simp only [Bool.and_eq_true] at h
    obtain ⟨⟨⟨⟨⟨⟨⟨⟨h1, h2⟩, h3⟩, h4⟩, h5⟩, h6⟩, h7⟩, h8⟩, h9⟩ := h
    have hcalm := c.calm hh
    rw [hh, if_neg Bool.false_ne_true] at h7
    rename_i e0 tgA itA ifs scope pp
    have hk := of_decide_eq_true h3
    have ho := of_decide_eq_true h2
    have cb : ∀ (s : Shared) (H : Hp) (Cc : Addr) (cl : List (Str × Addr)) (fp : List Addr), Lvl tb.inn C fx lev N ZF (relS scope sc) (X.blk s H scope (compEnvC scope cl Cc X.env) fp) := fun s H Cc cl fp => c.toCty.blk hk
    have bk : BlkOk X.N X.env.scope scope (ownN N own) := by rw [c.hN, c.hsc]; exact blkOk_by h1
    have hg : ∀ (s : Shared) (H : Hp) (Cc : Addr) (cl : List (Str × Addr)) (fp : List Addr), PG (X.blk s H scope (compEnvC scope cl Cc X.env) fp) tgA (gOf fx.K tg) := fun s H Cc cl fp => by
      rw [← c.hK]
      exact tgB_ok (X := X.blk s H scope (compEnvC scope cl Cc X.env) fp) hcalm (by show X.N.Nodup; rw [c.hN]; exact c.nd) (fun i x hh => blk_tg c.toCty hh) tg tgA h5
    have ht : ∀ (s : Shared) (H : Hp) (Cc : Addr) (cl : List (Str × Addr)) (fp : List Addr), PTs (X.blk s H scope (compEnvC scope cl Cc X.env) fp) ifs (TB fx ZF (tru (ev C cond))) := fun s H Cc cl fp => by
      split at h8
      · have := isT_ok h8; subst this
        exact jts_nil
      · exact pts_one (sE cond zf_std (cb s H Cc cl fp) true _ h8).pt
      · cases h8
    have he : ∀ (s : Shared) (H : Hp) (Cc : Addr) (cl : List (Str × Addr)) (fp : List Addr), PE (X.blk s H scope (compEnvC scope cl Cc X.env) fp) e0 (TD fx ZF (ev C elt)) := fun s H Cc cl fp => (sE elt zf_std (cb s H Cc cl fp) false _ h9).pe
    have hw : (isLoc sc x && (q.line == pp.line) && !(scope.names.any fun (n, k) => n == x && (k == .local || k == .cell))) = true := hw
    simp only [Bool.and_eq_true, Bool.not_eq_true'] at hw
    obtain ⟨⟨_, w2⟩, w3⟩ := hw
    have hxl : X.env.scope.names.lookup x = some .local := by rw [c.hsc]; exact isLoc_ok hx
    have key := ps_setLc (spos := p) (py := q) hcalm (by rw [c.hN]; exact c.nd) hi hxl (sw_true (by rw [c.hsc]; exact c.kind) hxl w2 w3) (sI it zs c.toLvl tgA itA h7) bk hg ht he (fold_ns h6)
    rw [ho] at key
    exact PS.imp key fun E σ H hh => lc_read (gok_of tg) (fun i hi => of_decide_eq_true (List.all_eq_true.mp h4 i hi)) hh
  · cases h
theorem one_tg (h : tgB N sc t e = true) {env : PySem.Env} : (assignEach [e] env).map (·.2) = [assign e env] := by
  cases e <;> first | rfl | (cases t <;> cases h)
theorem sub_asg {o a : Expr} {tpos : Pos} (h : isSlice a = false) : ∀ v, assign (.Subscript o a tpos) X.env v = (do
      let ov ← holding [v] (eval o X.env)
      let iv ← holding [v, ov] (eval a X.env)
      standAt tpos
      holding [v, ov, iv] (setItem ov iv v)
      release [v, ov, iv] []) := fun v => by
  cases a <;> first | rfl | cases h
end
mutual
theorem sS {tb : Tb} {C : Cfg} {fx : Fx} {lev : Nat} {N : List Str} {Z : XW} {sc : Scope} {X : Cx} {R0 : Hp} (zs : Std Z) (zr : StdR Z) (c : Ctx tb C fx lev N Z sc X) : ∀ (s : St) (st : Stmt), chS tb N sc s st = true → PS X st (TSt fx Z R0 (exec C s))
  | .expr e, st, h => by
    unfold chS at h
    split at h
    · obtain ⟨h1, h2⟩ := and3 h
      exact js_expr zr (sw_ns (not_ok h1)) (sE e zs c.toLvl false _ h2).pe
    · cases h
  | .pass, st, h => by
    unfold chS at h
    split at h
    · exact js_doc
    · exact js_pass
    · cases h
  | .ret e, st, h => by
    unfold chS at h
    split at h
    · exact js_ret zr (sE e zs c.toLvl false _ h).pe
    · cases h
  | .retN, st, h => by
    unfold chS at h
    split at h
    · exact js_retN
    · cases h
  | .iff t a b, st, h => by
    unfold chS at h
    split at h
    · simp only [Bool.and_eq_true] at h
      obtain ⟨⟨h1, h2⟩, h3⟩ := h
      exact js_if zs zr (sE t zs c.toLvl true _ h1).pt (sSs zs zr c a _ h2) (sSs zs zr c b _ h3)
    · cases h
  | .whl t b, st, h => by
    unfold chS at h
    split at h
    · obtain ⟨h1, h2⟩ := and3 h
      exact js_while zs zr c.po (sE t zs c.toLvl true _ h1).pt (sSs zs zr c b _ h2)
    · cases h
  | .fr tg it b, st, h => by
    unfold chS at h
    split at h
    · simp only [Bool.and_eq_true] at h
      obtain ⟨⟨⟨⟨h0, h1⟩, h2⟩, h3⟩, h4⟩ := h
      exact js_for zs zr c.po (c.calm (not_ok h0)) (gok_of tg) (sI it zs c.toLvl _ _ h3) (c.tg (not_ok h0) h1) (sSs zs zr c b _ h4) (fold_ns h2)
    · cases h
  | .set i e, st, h => by
    unfold chS at h
    split at h
    · obtain ⟨h1, h2⟩ := and3 h
      obtain ⟨g1, g2, g3⟩ := sB_ok c h1
      split at h2
      · rename_i hv
        split at h2
        · simp only [Bool.and_eq_true] at h2
          obtain ⟨⟨⟨k0, k1⟩, k2⟩, k3⟩ := h2
          exact PS.imp (asg_Lc zs c (not_ok k0) k3 hv g1 k2 k1) fun E σ H hh => fz_read (set_read zr hh)
        · simp only [Bool.and_eq_true] at h2
          obtain ⟨⟨⟨k0, k1⟩, k2⟩, k3⟩ := h2
          exact PS.imp (asg_Lc zs c (not_ok k0) k3 hv g1 k2 k1) fun E σ H hh => hp_read (set_read zr hh)
        · cases h2
      · rename_i hv
        exact js_set zr (by rw [c.hN]; exact c.nd) g1 g2 g3 (sw_ns (by simpa using hv)) (sE e zs c.toLvl false _ h2).pe
    · cases h
  | .setT tg e, st, h => by
    unfold chS at h
    split at h
    · simp only [Bool.and_eq_true] at h
      obtain ⟨⟨⟨⟨h0, h1⟩, h2⟩, h3⟩, h4⟩ := h
      rw [← c.hsc] at h3
      exact js_setT zr (gok_of tg) (c.tg (not_ok h0) h1) (sole_ns (not_ok h2)) (swOk_ok (by rw [c.hsc]; exact c.kind) h3) (one_tg h1) (sE e zs c.toLvl false _ h4).pe
    · cases h
  | .par i j a b, st, h => by
    unfold chS at h
    split at h
    · simp only [Bool.and_eq_true] at h
      obtain ⟨⟨⟨⟨⟨⟨⟨⟨h0, h1⟩, h2⟩, h3⟩, h4⟩, h5⟩, h6⟩, h7⟩, h8⟩ := h
      rename_i x px y py kt pt v u k2 p2 p
      have n1 : X.N[i]? = some x := by rw [c.hN]; exact of_decide_eq_true h1
      have n2 : X.N[j]? = some y := by rw [c.hN]; exact of_decide_eq_true h2
      rw [← c.hsc] at h4
      have h4' := h4
      unfold doSwap at h4'
      simp only [Bool.and_eq_true] at h4'
      exact js_par zs zr (c.calm (not_ok h0)) (by rw [c.hN]; exact c.nd) n1 n2 (of_decide_eq_true h3) (isLoc_ok h4'.1.1.1.1.1) (isLoc_ok h4'.1.1.1.1.2) (nsB_ok h5) (nsB_ok h6) (sws_some (by rw [c.hsc]; exact c.kind) (nsB_ok h5) (nsB_ok h6) h4) (sE a zs c.toLvl false _ h7).pe (sE b zs c.toLvl false _ h8).pe
    · cases h
  | .own i l, st, h => by
    unfold chS at h
    split at h
    · simp only [Bool.and_eq_true] at h
      obtain ⟨⟨h1, h2⟩, h3⟩ := h
      obtain ⟨g1, g2, g3⟩ := sB_ok c h1
      split at h2
      · rename_i hv
        simp only [Bool.and_eq_true] at h2
        obtain ⟨⟨k0, k1⟩, k2⟩ := h2
        exact PS.imp (asg_Lc zs c (not_ok k0) h3 hv g1 k2 k1) fun E σ H hh => own_read zr hh
      · rename_i hv
        exact js_own zr (by rw [c.hN]; exact c.nd) g1 g2 g3 (sw_ns (by simpa using hv)) (sL l zs c.toLvl _ h3)
    · cases h
  | .owd i, st, h => by
    unfold chS at h
    split at h
    · obtain ⟨g1, g2, g3⟩ := sB_ok c h
      exact js_owd (by rw [c.hN]; exact c.nd) g1 g2 g3
    · cases h
  | .oapp i e, st, h => by
    unfold chS at h
    split at h
    · simp only [Bool.and_eq_true] at h
      obtain ⟨⟨⟨⟨h1, h2⟩, h3⟩, h4⟩, h5⟩ := h
      have := strEq h1; subst this
      exact js_oapp zs zr c.hK rfl (nsB_ok h3) h4 (PE.name c.toCty h2) (sE e zs c.toLvl false _ h5).pe
    · cases h
  | .oset i a e, st, h => by
    unfold chS at h
    split at h
    · simp only [Bool.and_eq_true] at h
      obtain ⟨⟨⟨⟨h1, h2⟩, h3⟩, h4⟩, h5⟩ := h
      exact js_oset zs zr (by have := c.uni; omega) (sole_ns (not_ok h3)) (swOk_ok (by rw [c.hsc]; exact c.kind) rfl) rfl (PE.name c.toCty h1) (sE a zs c.toLvl false _ h4).pe (sE e zs c.toLvl false _ h5).pe (sub_asg (not_ok h2))
    · cases h
  | .hset o a e, st, h => by
    unfold chS at h
    split at h
    · simp only [Bool.and_eq_true] at h
      obtain ⟨⟨⟨⟨h1, h2⟩, h3⟩, h4⟩, h5⟩ := h
      exact js_hset zs zr (by have := c.uni; omega) (sole_ns (not_ok h2)) (swOk_ok (by rw [c.hsc]; exact c.kind) rfl) rfl (sE o zs c.toLvl false _ h3).pe (sE a zs c.toLvl false _ h4).pe (sE e zs c.toLvl false _ h5).pe (sub_asg (not_ok h1))
    · cases h
  | .rais k es, st, h => by
    unfold chS at h
    split at h
    · simp only [Bool.and_eq_true] at h
      obtain ⟨⟨⟨h0, h1⟩, h2⟩, h3⟩ := h
      have hcalm := c.calm (not_ok h0)
      have hroom := c.room (not_ok h0)
      obtain ⟨g1, g2⟩ := gB_ok c.toCty h1
      split at h3
      · simp only [Bool.and_eq_true] at h3
        obtain ⟨⟨k1, k2⟩, k3⟩ := h3
        exact js_rais zs zr (c.rz k _ (of_decide_eq_true h2) k1) hcalm hroom c.tk g1 (nsB_ok k2) (sE _ zs c.toLvl false _ k3).pe
      · exact js_rais0 zs (c.rz0 k _ (of_decide_eq_true h2) h3) hcalm c.tk g1
      · cases h3
    · cases h
  | .brk, st, h => by
    unfold chS at h
    split at h
    · exact js_brk
    · cases h
  | .cont, st, h => by
    unfold chS at h
    split at h
    · exact js_cont
    · cases h
  | .fzs _, st, h => by have h : false = true := h; cases h
  | .fset _ _ _, st, h => by have h : false = true := h; cases h
  | .tryE _ _ _ _ _ _, st, h => by have h : false = true := h; cases h
  | .fdel, st, h => by have h : false = true := h; cases h
  | .bad, st, h => PS.imp ps_never fun E σ H ⟨w, R, ρ, h, fs, o⟩ => o.elim
theorem sSs {tb : Tb} {C : Cfg} {fx : Fx} {lev : Nat} {N : List Str} {Z : XW} {sc : Scope} {X : Cx} {R0 : Hp} (zs : Std Z) (zr : StdR Z) (c : Ctx tb C fx lev N Z sc X) : ∀ (ss : List St) (sts : List Stmt), chSs tb N sc ss sts = true → PSs X sts (TSt fx Z R0 (execs C ss))
  | [], sts, h => by
    cases sts with
    | nil => exact jss_nil
    | cons _ _ => have h : false = true := h; cases h
  | x :: xs, sts, h => by
    cases hf : isFz x with
    | true =>
      unfold chSs at h
      rw [hf] at h
      dsimp only at h
      cases x with
      | fzs i => exact jss_fz zs (sSs zs zr c xs sts h)
      | _ => cases hf
    | false =>
      unfold chSs at h
      rw [hf] at h
      dsimp only at h
      cases sts with
      | nil => cases h
      | cons s r =>
        obtain ⟨h1, h2⟩ := and3 h
        exact jss_cons zs (sS zs zr c x s h1) (sSs zs zr c xs r h2)
end
end PL
end
section
set_option Elab.async false
set_option linter.all false
set_option maxHeartbeats 2000000
/-! PL23: other things at hand (the exception, the lambda): the same readings. -/
namespace PL
open PySem PySem.Spec PyProof.Rows L2 LamX
section
variable {fx : Fx} {w : Wd}
/-- the same, with another exception at hand -/
def Fx.sxx (fx : Fx) (z : Option (Addr × Value × Option Addr)) : Fx := { fx with sx := z }
variable {z : Option (Addr × Value × Option Addr)}
mutual
theorem Rel.sxx : ∀ (d : D) (v : V), Rel (fx.sxx z) w d v ↔ Rel fx w d v
  | .non, v => Iff.rfl
  | .bl _, v => Iff.rfl
  | .int _, v => Iff.rfl
  | .str _, v => Iff.rfl
  | .tup ds, v => ⟨fun ⟨a, vs, e, q, r⟩ => ⟨a, vs, e, q, (Rels.sxx ds vs).mp r⟩, fun ⟨a, vs, e, q, r⟩ => ⟨a, vs, e, q, (Rels.sxx ds vs).mpr r⟩⟩
  | .lst ds, v => ⟨fun ⟨a, vs, e, q, r⟩ => ⟨a, vs, e, q, (Rels.sxx ds vs).mp r⟩, fun ⟨a, vs, e, q, r⟩ => ⟨a, vs, e, q, (Rels.sxx ds vs).mpr r⟩⟩
  | .scr _, v => Iff.rfl
  | .dk _ ds, v => ⟨fun ⟨a, vs, e, q, l, r⟩ => ⟨a, vs, e, q, l, (Rels.sxx ds vs).mp r⟩, fun ⟨a, vs, e, q, l, r⟩ => ⟨a, vs, e, q, l, (Rels.sxx ds vs).mpr r⟩⟩
  | .obj _ _ ds, v => ⟨fun ⟨a, dx, vs, e, q, l, r⟩ => ⟨a, dx, vs, e, q, l, (Rels.sxx ds vs).mp r⟩, fun ⟨a, dx, vs, e, q, l, r⟩ => ⟨a, dx, vs, e, q, l, (Rels.sxx ds vs).mpr r⟩⟩
  | .ref _, v => Iff.rfl
theorem Rels.sxx : ∀ (ds : List D) (vs : List V), Rels (fx.sxx z) w ds vs ↔ Rels fx w ds vs
  | [], vs => Iff.rfl
  | d :: ds, vs => ⟨fun ⟨v, r, e, a, b⟩ => ⟨v, r, e, (Rel.sxx d v).mp a, (Rels.sxx ds r).mp b⟩, fun ⟨v, r, e, a, b⟩ => ⟨v, r, e, (Rel.sxx d v).mpr a, (Rels.sxx ds r).mpr b⟩⟩
end
theorem CRel.sxx : ∀ (c : HC) (o : HO), CRel (fx.sxx z) w c o ↔ CRel fx w c o
  | .lst ds, o => ⟨fun ⟨vs, e, r⟩ => ⟨vs, e, (Rels.sxx ds vs).mp r⟩, fun ⟨vs, e, r⟩ => ⟨vs, e, (Rels.sxx ds vs).mpr r⟩⟩
  | .dk _ ds, o => ⟨fun ⟨vs, e, l, r⟩ => ⟨vs, e, l, (Rels.sxx ds vs).mp r⟩, fun ⟨vs, e, l, r⟩ => ⟨vs, e, l, (Rels.sxx ds vs).mpr r⟩⟩
  | .ins _ _ ds, o => ⟨fun ⟨dx, vs, e, l, r⟩ => ⟨dx, vs, e, l, (Rels.sxx ds vs).mp r⟩, fun ⟨dx, vs, e, l, r⟩ => ⟨dx, vs, e, l, (Rels.sxx ds vs).mpr r⟩⟩
theorem XRel.sxx {e : Exn} {cls : Value} {d : Option Addr} : XRel (fx.sxx z) w e cls d ↔ XRel fx w e cls d := by
  obtain ⟨c, as⟩ := e
  cases as with
  | nil => exact Iff.rfl
  | cons x xs =>
    cases xs with
    | nil => exact ⟨fun ⟨h, a, v, e1, e2, e3⟩ => ⟨h, a, v, e1, e2, (Rel.sxx x v).mp e3⟩, fun ⟨h, a, v, e1, e2, e3⟩ => ⟨h, a, v, e1, e2, (Rel.sxx x v).mpr e3⟩⟩
    | cons _ _ => exact Iff.rfl
theorem HR.sxx {R : Hp} {h : Hs} {H : Hp} : HR (fx.sxx z) w R h H ↔ HR fx w R h H :=
  ⟨fun r => ⟨r.sF, r.sR, r.dis, fun n c e => by obtain ⟨a, o, e1, e2, e3, e4, e5⟩ := r.live n c e; exact ⟨a, o, e1, e2, e3, e4, (CRel.sxx c o).mp e5⟩, r.inj, r.rng, r.top, r.ps, r.nF, r.nR⟩,
   fun r => ⟨r.sF, r.sR, r.dis, fun n c e => by obtain ⟨a, o, e1, e2, e3, e4, e5⟩ := r.live n c e; exact ⟨a, o, e1, e2, e3, e4, (CRel.sxx c o).mpr e5⟩, r.inj, r.rng, r.top, r.ps, r.nF, r.nR⟩⟩
theorem SR.off {R : Hp} {n : Nat} {σ : L2.St} (h : n = σ.length) : SR fx w R (List.replicate n .non) σ := ⟨by rw [List.length_replicate]; exact h, fun i s e => by
  rw [List.getElem?_replicate] at e
  split at e
  · cases e; trivial
  · cases e⟩
theorem Takes.len {X : Cx} {W : WX} (t : L2N.Takes X W) : L2N.Takes X (fun cls d σ H => σ.length = X.N.length → W cls d σ H) := fun u s' ⟨a, B, sI, pins, σ, H, cls, d, e, I, nb, up, sky, na, os, ag, w⟩ =>
  t u s' ⟨a, B, sI, pins, σ, H, cls, d, e, I, nb, up, sky, na, os, ag, w I.len⟩
theorem FrS.off {R0 R' : Hp} {w' : Wd} {σ : L2.St} {h : Hs} {H : Hp} {n : Nat} (hr : HR fx w' R' h H) (s0 : Same R0 R') (hl : n = σ.length) : FrS fx R0 w' R' (List.replicate n .non) σ h H :=
  ⟨⟨hr, SR.off hl⟩, s0, fun i c a e _ => by
    rw [List.getElem?_replicate] at e
    split at e <;> cases e⟩
variable {X : Cx} {C : Cfg} {Z : XW} {R0 : Hp} {G : Wd → Hp → Hs → Hp → Prop}
/-- try: return ('..', a()) / except x as n: suite -/
theorem js_try {i cc m j kk : Nat} {t : List Nat} {x n a : Str} {f c' : Addr} {q : Str} {tl : XK → Hp → VK → Prop} {p0 p1 p2 p3 p4 np pos' pos : Pos} {b₀ : Stmt} {suite : List Stmt} {s1 : MS}
    (hm : m = X.N.length) (zs : Std Z) (zr : StdR Z) (hs : X.stack = X.env :: X.outer) (hf : X.env.frame = some X.env.locals) (nd : X.N.Nodup) (hi : X.N[i]? = some n) (hln : X.env.kindOf n = some .local) (hcl : Names X x (.ref (fx.ca cc))) (tk : L2N.Takes X (WZ fx Z))
    (exm : ∀ k l, C.xs k = some l → PySem.W.exmOne X.K (.ref (fx.ca k)) (.ref (fx.ca cc)) = some (decide (cc ∈ l)))
    (act : ∀ (W : WX) (pn : List (Addr × Obj)) (xe : Value → Shared → Prop) (E : XK) (p1 p2 : Pos), L2N.Takes (X.tr pn xe) W → (∀ cls d σ' H', E cls d H' → W cls d σ' H') → PE (X.tr pn xe) (.Call (.Name a p1) [] [] p2) (fun σZ HZ Q => σZ[0]? = some (some (.ref f)) ∧ HZ c' = some (CodeO c' q) ∧ tl E HZ Q))
    (h0 : fx.sa = some f) (hP : ∀ w R h H, G w R h H → H c' = some (CodeO c' q)) (htl : ∀ w R h H Q' (E : XK), G w R h H → HR fx w R h H → Same R0 R → Out (C.lamc h) (PD fx Q' w R) (ZC fx E w R) → tl E H Q')
    (hsu : ∀ (a : Addr) (oe : Obj) (cls : Value) (d : Option Addr) (pn : List (Addr × Obj)), L2N.Zn cls d oe → (∃ vs, oe.data = .fields vs) → PSs (X.suite a ((a, oe) :: pn)) (b₀ :: suite) (TSt (fx.sxx (some (a, cls, d))) ZF R0 s1)) :
    PS X (.Try [.Return (some (.Tuple [.Constant (.str (st t)) j p0, .Call (.Name a p1) [] [] p2] kk p3)) p4] [.ExceptHandler (some (.Name x np)) (some n) (b₀ :: suite) pos'] [] [] pos) (fun E σ H => ∃ w R ρ h, G w R h H ∧ FrS fx R0 w R ρ σ h H ∧ Out (tryM C i cc m (some t) 0 s1 ρ h) (PSd fx E R0 w) (Z w R0)) := by
  refine PS.imp (L2N.ps_try_as (i := i) (Wout := WZ fx Z) (ts := fun a cls d => TSt (fx.sxx (some (a, cls, d))) ZF R0 s1)
    (tb := fun W D σ H => ∃ Ech : XK, (∀ cls d (σ' : L2.St) H', Ech cls d H' → σ'.length = X.N.length → W cls d σ' H') ∧ σ[0]? = some (some (.ref f)) ∧ H c' = some (CodeO c' q) ∧
      tl Ech H fun v H1 => [V.str (st t), v].length ≤ sizeLine ∧ ∀ p, H1 p = none → D.rt (.ref p) (upd H1 p (.tup [.str (st t), v]))) hs hf nd hi hln hcl tk (fun W pn xe tk' _ => ?_) hsu) fun E σ H ⟨w, R, ρ, h, gg, fs, o⟩ => ?_
  · refine ⟨fun pins s' σ H' D I ⟨Ech, hW, g1, g2, g3⟩ => ?_⟩
    have hp := act _ pn xe Ech p1 p2 (Takes.len tk') fun cls d σ' H' e l => hW cls d σ' H' e l
    exact (pss_one (ps_ret (pos := p4) (pe_tup (x1 := kk) (pos := p3) (pa_cons (pe_str (j := j) (pos := p0)) (pa_cons hp pa_nil))))).run pins s' σ H' D I ⟨g1, g2, g3⟩
  · have len : σ.length = X.N.length → ρ.length = X.N.length := fun e => fs.fr.sr.len.trans e
    unfold tryM at o
    have ho : ρ[0]? = some .fn ∧ Out (C.lamc h) (fun d h' => PSd fx E R0 w (.ret (.tup [.str t, d]), ρ) h') fun e h' => match C.xs e.cls with
        | some l => if cc ∈ l then (match s1 (sufρ m i e) h' with | .ok x h'' => PSd fx E R0 w (offE x) h'' | .exc _ _ => False | .bad => False) else Z w R0 e h'
        | none => False := by
      unfold lcallE at o
      cases e0 : ρ[0]? with
      | none => rw [e0] at o; exact o.elim
      | some sl =>
        rw [e0] at o
        cases sl with
        | fn =>
          refine ⟨rfl, ?_⟩
          dsimp only at o
          cases e1 : C.lamc h with
          | ok d h' => rw [e1] at o; exact o
          | exc e h' =>
            rw [e1] at o
            dsimp only at o
            show (match C.xs e.cls with | some l => _ | none => False)
            cases e2 : C.xs e.cls with
            | none => rw [e2] at o; exact o.elim
            | some l =>
              rw [e2] at o
              dsimp only at o ⊢
              by_cases hc : cc ∈ l
              · rw [if_pos hc] at o ⊢
                cases e3 : s1 (sufρ m i e) h' with
                | ok x h'' => rw [e3] at o; exact o
                | exc _ _ => rw [e3] at o; exact o.elim
                | bad => rw [e3] at o; exact o.elim
              · rw [if_neg hc] at o ⊢; exact o
          | bad => rw [e1] at o; exact o.elim
        | _ => exact o.elim
    obtain ⟨e0, o⟩ := ho
    obtain ⟨a0, g1, g2⟩ := fs.fr.sr.at_ 0 _ e0
    rw [h0] at g1; cases g1
    refine ⟨fun cls d H' => ∃ e h' w', Wle w w' ∧ HR fx w' R h' H' ∧ XRel fx w' e cls d ∧ (match C.xs e.cls with
        | some l => if cc ∈ l then (match s1 (sufρ m i e) h' with | .ok x h'' => PSd fx E R0 w (offE x) h'' | .exc _ _ => False | .bad => False) else Z w R0 e h'
        | none => False), ?_, g2, hP _ _ _ _ gg, ?_⟩
    · rintro cls d σ' H' ⟨e, h', w', le, hr, xr, k⟩ hl
      cases e2 : C.xs e.cls with
      | none => rw [e2] at k; exact k.elim
      | some l =>
        rw [e2] at k
        dsimp only at k
        have ecls : cls = .ref (fx.ca e.cls) := xr.1
        refine ⟨decide (cc ∈ l), by rw [ecls]; exact exm _ _ e2, fun hb a hna => ?_, fun hb => ?_⟩
        · have hc : cc ∈ l := of_decide_eq_true hb
          rw [if_pos hc] at k
          have hr2 : HR (fx.sxx (some (a, cls, d))) w' R h' H' := HR.sxx.mpr hr
          have hil : i < m := by
            rw [hm]
            exact (List.getElem?_eq_some_iff.mp hi).1
          have nown : ∀ (jj : Nat) (cx : HC), (sufρ m i e)[jj]? ≠ some (Sl.own cx) := fun jj cx e5 => by
            unfold sufρ at e5
            by_cases hj : i = jj
            · subst hj
              rw [List.getElem?_set_self (by rw [List.length_replicate]; exact hil)] at e5; cases e5
            · rw [List.getElem?_set_ne hj, List.getElem?_replicate] at e5
              split at e5 <;> cases e5
          refine ⟨w', R, sufρ m i e, h', ⟨⟨hr2, ⟨?_, fun jj x e5 => ?_⟩⟩, fs.s0, fun jj cx aa e5 _ => absurd e5 (nown jj cx)⟩, ?_⟩
          · unfold sufρ
            rw [List.length_set, List.length_set, List.length_replicate, hl, hm]
          · unfold sufρ at e5
            by_cases hj : i = jj
            · subst hj
              rw [List.getElem?_set_self (by rw [List.length_replicate]; exact hil)] at e5; cases e5
              rw [List.getElem?_set_self (by rw [hl, ← hm]; exact hil)]
              exact ⟨a, cls, d, rfl, rfl, XRel.sxx.mpr xr⟩
            · rw [List.getElem?_set_ne hj, List.getElem?_replicate] at e5
              split at e5
              · cases e5; trivial
              · cases e5
          · cases e3 : s1 (sufρ m i e) h' with
            | exc _ _ => rw [e3] at k; exact k.elim
            | bad => rw [e3] at k; exact k.elim
            | ok x h'' =>
              rw [e3] at k
              dsimp only at k
              show PSd (fx.sxx (some (a, cls, d))) _ R0 w' x h''
              obtain ⟨fl, ρ2⟩ := x
              have lst : ∀ {w'' : Wd} {R'' : Hp} {σ'' : L2.St} {H'' : Hp}, FrS (fx.sxx (some (a, cls, d))) R0 w'' R'' ρ2 σ'' h'' H'' → FrS fx R0 w'' R'' (List.replicate ρ2.length .non) (σ''.set i none) h'' H'' := fun f =>
                FrS.off (HR.sxx.mp f.fr.hr) f.s0 (by rw [List.length_set]; exact f.fr.sr.len)
              cases fl with
              | nx => exact fun w'' R'' σ'' H'' le' f => k w'' R'' _ H'' (le.trans le') (lst f)
              | bk => exact fun w'' R'' σ'' H'' le' f => k w'' R'' _ H'' (le.trans le') (lst f)
              | ct => exact fun w'' R'' σ'' H'' le' f => k w'' R'' _ H'' (le.trans le') (lst f)
              | ret x => exact fun w'' v H'' le' hr' r => k w'' v H'' (le.trans le') (HR.sxx.mp hr') ((Rel.sxx x v).mp r)
        · have hc : ¬ cc ∈ l := of_decide_eq_false hb
          rw [if_neg hc] at k
          exact ⟨w', R, e, h', hr, xr, zr _ _ _ _ _ fs.s0 (zs _ _ _ _ _ le k)⟩
    · refine htl w R h H _ _ gg fs.fr.hr fs.s0 (o.imp (fun d h' z => ?_) fun e h' z => ?_)
      · intro w' v H' le hr r
        refine ⟨by show 2 ≤ sizeLine; rw [sizeLine_eq]; omega, fun p hp => ?_⟩
        have hn := hr.lay (o := .tup [.str (st t), v]) hp
        have le2 : Wle w' (w'.add p (.tup [.str (st t), v])) := Wd.le_add (hr.none hp).1
        exact z _ _ _ (le.trans le2) (hn.weak fs.s0) ⟨p, _, rfl, .inl (.inl upd_same), _, _, rfl, rfl, v, [], rfl, Rel.mono le2 _ _ r, rfl⟩
      · intro w' cls d H' le hr xr
        exact ⟨e, h', w', le, hr, xr, z⟩
end
end PL
end
section
set_option Elab.async false
set_option linter.all false
set_option maxRecDepth 100000
set_option maxHeartbeats 2000000
/-! PL24: the exception that a suite holds: isinstance, its attribute. The first two rules follow HandS.ExcIs, for an exception that has its dict. -/
namespace PySem.W
open PySem PySem.Spec PySem.Calls PyProof.Rows
section
variable {prog : Program} {w : World} {A : Around} {E : Value → Shared → Prop} {s : Shared} {K : Frag} {x D : Addr} {ox : Obj}
theorem kin_classE2 {Q : Option Value → Shared → Prop} (kA : findIn K (.ref D) "__getattribute__" = some (some (.builtin "BaseException.__getattribute__"))) (kB : findIn K (.ref D) "__getattr__" = some none) (kC : subIn K (.ref D) (.type "BaseException") = some true)
    (kD : hasDictIn K D = true) (kE : findIn K (.ref D) "__class__" = some (some (.builtin "object.__class__")))
    (kF : specialIn K (.builtin "object.__class__") "__get__" = some (some (.builtin "getset_descriptor.__get__"))) (kG : takesIn K (.builtin "object.__class__") = some true) (kH : mroIn K D (.type "object") = some true)
    (X : K.In s.heap) {od : Obj} (I : InstAt s.heap x ox D (some od)) (h : Q (some (.ref D)) { s with toks := s.toks + 1 }) : wpAny (model prog w) A (getAttr? (.ref x) "__class__") Q E s := by
  have fnd : findObj K D (some od) "__class__" = some (.bind (.builtin "getset_descriptor.__get__") (.builtin "object.__class__")) := findObj_data (by obtain ⟨cd, hc, _⟩ := any_some kD; rw [hc]; rfl) kE kF kG; obtain ⟨hp, g, d, t, os⟩ := s
  have M0 := I.type (M := model prog w); have M1 := looks_findIn (M := model prog w) X kA; have M2 := looks_findIn (M := model prog w) X kB; have M3 := looks_find (M := model prog w) X I fnd
  have isB : Looks (model prog w) hp (isInstance (.ref x) (.type "BaseException")) true := M0.andThen (looks_subIn X kC); have y0 : (false && onTheHeap (Value.builtin "BaseException.__getattribute__")) = false := rfl
  have y2 : (Value.builtin "BaseException.__getattribute__" == Value.builtin "object.__getattribute__") = false := by decide +kernel
  have y1 : (onTheHeap (Value.ref D) && Value.builtin "BaseException.__getattribute__" == Value.builtin "object.__getattribute__") = false := by rw [y2]; rfl
  unfold getAttr? getAttrBy? getAttrBy; refine wpAny_bind (wpAny_mkText (wpAny_bind (wpAny_attempt (wpAny_holding (wpAny_bind (M0.at (wpAny_bind (M1.at ?_))))))))
  show wpAny _ _ (if (onTheHeap (Value.ref D) && Value.builtin "BaseException.__getattribute__" == Value.builtin "object.__getattribute__") = true then _ else _) _ _ _; rw [y1, if_neg Bool.false_ne_true]; unfold getAttrByItsOwn hookBefore; refine wpAny_bind ?_
  rw [if_pos (show onTheHeap (Value.ref D) = true from rfl)]; refine M2.at ?_; refine wpAny_bind (wpAny_attempt (wpAny_holding ?_)); unfold callGetattribute; rw [y0, if_neg Bool.false_ne_true]; unfold boundAndCalled
  rw [PySem.F.excAttr_ValueError.ga.bind (.ref x)]; refine wpAny_bind (wpAny_pure ?_); show wpAny _ _ (call (.builtin "BaseException.__getattribute__") [.ref x, .str "__class__" t]) _ _ _
  refine wpAny_call (codeAny_call_builtin PySem.F.excAttr_ValueError.ga.plain PySem.F.entry_bexc_ga ?_)
  refine @check_slot (model prog w) _ _ ⟨hp, g, d, t + 1, os⟩ "BaseException.__getattribute__" "BaseException" "__getattribute__" (.ref x) [.str "__class__" t] [] _ (by decide +kernel) (by decide +kernel) isB (PySem.F.args_bexc_ga (.ref x) (.str "__class__" t)) ?_
  unfold Builtin.«object.__getattribute__»; refine wpAny_bind (wpAny_of_eq (a := ((Value.ref x : Value), [Value.str "__class__" t])) (by first | rfl | (simp only [slotArgs]; rfl)) ?_); refine wpAny_bind (wpAny_pure (wpAny_bind (M0.at (wpAny_bind (M3.at ?_)))))
  show wpAny _ _ (holding [Value.builtin "object.__class__"] (call (.builtin "getset_descriptor.__get__") [.builtin "object.__class__", .ref x, .ref D]) >>= ret) _ _ _
  refine wpAny_bind (wpAny_holding (wpAny_call (class_get (s := ⟨hp, g, d, t + 1, os⟩) (ox := ox) (od := some od) X I kH ?_))); refine wpAny_pure ?_; show wpAny _ _ (handedOut (.ref D)) _ _ _; rw [handedOut_of (v := .ref D) rfl]
  first
    | exact wpAny_pure (wpAny_pure h)
    | exact wpAny_pure h
    | exact wpAny_pure (wpAny_bind (wpAny_pure (wpAny_pure h)))
theorem handS_kitx_exc2 (kA : findIn K (.ref D) "__getattribute__" = some (some (.builtin "BaseException.__getattribute__"))) (kB : findIn K (.ref D) "__getattr__" = some none) (kC : subIn K (.ref D) (.type "BaseException") = some true) (kD : hasDictIn K D = true) (kE : findIn K (.ref D) "__class__" = some (some (.builtin "object.__class__")))
    (kF : specialIn K (.builtin "object.__class__") "__get__" = some (some (.builtin "getset_descriptor.__get__"))) (kG : takesIn K (.builtin "object.__class__") = some true) (kH : mroIn K D (.type "object") = some true) :
    KitX K (.ref x) (.ref D) (fun h => ∃ od, InstAt h x ox D (some od)) where
  ty := fun _ _ _ I => I.elim fun _ I => I.type
  it := fun _ _ X _ => by
    obtain ⟨jd, jD, _⟩ := any_some kD; unfold clsIn at jD
    split at jD
    · rename_i c' d' cd' sl' lo
      intro A' Q' E' s' k q
      unfold isType loadHead
      exact wpAny_bind (wpAny_loadPart (k _ _ (X _ _ lo)) (wpAny_pure q))
    · cases jD
  ne := fun h tp dd its n sl X htp => by
    obtain ⟨jd, jD, _⟩ := any_some kD; refine Bool.eq_false_iff.mpr fun q => ?_; have e : D = tp := Value.ref.inj (beq_iff_eq.mp q); subst e; unfold clsIn at jD
    split at jD
    · rename_i c' d' cd' sl' lo
      have z := (X _ _ lo).symm.trans htp; cases z
    · cases jD
  ca := fun X I k => I.elim fun _ I => kin_classE2 kA kB kC kD kE kF kG kH X I k
end
end PySem.W
namespace PL
open PySem PySem.Spec PyProof.Rows L2
/-- isinstance of the exception at a, its dict at dd -/
def rIsX (K : PySem.W.Frag) (D a dd : Addr) : List V → Hp → VK → Prop := fun xs H Q => ∃ (c : V) (cv : Value) (b : Bool) (fs : List (Str × V)), xs = [.ref a, c] ∧ H dd = some (.xd fs) ∧ (∀ u, L2.RelV c u → u = cv) ∧ PySem.W.kitOne K (.ref D) cv = some b ∧ Q (.bl b) H
theorem call_isX {X : Cx} {a D dd : Addr} {oe : Obj} {pn : List (Addr × Obj)} (C : ExcC X.K D) (hz : L2.Zc (.ref D) (some dd) oe) (hf : ∃ vs, oe.data = .fields vs) : L2.CallR (X.suite a ((a, oe) :: pn)) (.builtin "isinstance") (rIsX X.K D a dd) := by
  intro pins s σ H xs us Q I r h
  obtain ⟨c, cv, b, fs, rfl, hd, hcv, e, q⟩ := h
  obtain ⟨u1, u2, rfl, r1, r2⟩ := L2.vals2 r
  cases (show u1 = Value.ref a from r1)
  have ec := hcv _ r2
  subst ec
  obtain ⟨at1, _⟩ := I.pin (a, oe) (List.mem_append.mpr (.inl List.mem_cons_self))
  obtain ⟨mA, hns, _⟩ := (show ObjOk X.prog X.w H s.heap dd (.xd fs) from I.hok dd _ hd)
  obtain ⟨od, hod, _⟩ := L2.lookIn_ns hns
  obtain ⟨vs, hv⟩ := hf
  have J : PySem.W.InstAt s.heap a oe D (some od) := by
    obtain ⟨oc, odd, oda, osl⟩ := oe
    obtain ⟨z1, z2⟩ := hz
    dsimp only at z1 z2 hv
    subst z1 z2 hv
    exact ⟨at1, rfl, rfl, hod⟩
  exact PySem.W.kia_one (PySem.W.handS_kitx_exc2 C.hg C.hk C.hs C.hd C.ha C.hn C.ht C.hm) I.kIn ⟨od, J⟩ e (fun z => nomatch z) fun tk => ⟨.bl b, H, I.kept (t' := tk) fun _ _ z => z, rfl, q⟩
/-- what a class of exceptions must say of its attribute f -/
structure ExFl (K : PySem.W.Frag) (D : Addr) (f : Str) : Prop where
  nf : PySem.W.findIn K (.ref D) f = some none
/-- e.f, e the exception at a -/
theorem pe_exf {X : Cx} {a D : Addr} {oe : Obj} {cls : Value} {d : Option Addr} {pn : List (Addr × Obj)} {nm : Expr} {te : TE} {pos : Pos} {f : Str} (C : ExcC X.K D) (F : ExFl X.K D f) (hz : L2.Zc cls d oe) (hf : ∃ vs, oe.data = .fields vs) (hn : nsup nm = true) (hx : PE (X.suite a ((a, oe) :: pn)) nm te) :
    PE (X.suite a ((a, oe) :: pn)) (.Attribute nm f pos) (fun σ H Q => te σ H fun x H1 => x = .ref a ∧ cls = .ref D ∧ ∃ (dd : Addr) (v : V), d = some dd ∧ H1 dd = some (.xd [(f, v)]) ∧ Q v H1) := by
  refine ⟨fun pins s σ H Q I h => attr_of (abase hn) (L2.thn (hx.run pins s σ H _ I h) fun u s1 ⟨x, H1, I1, rx, ex, ec, dd, v, ed, ea, q⟩ => ?_)⟩
  subst ex; subst ec; subst ed
  cases (show u = Value.ref a from rx)
  obtain ⟨at1, _⟩ := I1.pin (a, oe) (List.mem_append_left _ List.mem_cons_self)
  obtain ⟨mA, hns, hr⟩ := (show ObjOk X.prog X.w H1 s1.heap dd (.xd [(f, v)]) from I1.hok dd _ ea)
  obtain ⟨od, lo, hl⟩ := L2.lookIn_ns hns
  have lk : List.lookup f [(f, v)] = some v := by simp
  obtain ⟨u2, hu, ru⟩ := L2.RelO.some_of (v := v) (o := mA f) (by rw [← lk]; exact hr f)
  obtain ⟨vs, hv⟩ := hf
  have J : PySem.W.InstAt s1.heap a oe D (some od) := by
    obtain ⟨oc, odd, oda, osl⟩ := oe
    obtain ⟨z1, z2⟩ := hz
    dsimp only at z1 z2 hv
    subst z1 z2 hv
    exact ⟨at1, rfl, rfl, lo⟩
  exact HandSPX.exc_get I1.kIn J C.hg C.hk C.hs (PySem.W.findObj_own C.hd F.nf rfl (by rw [hl, hu])) (L2.handed_of ru) ⟨v, H1, I1.tok _, ru, q⟩
end PL
end
section
set_option Elab.async false
set_option linter.all false
set_option maxHeartbeats 2000000
/-! PL25: the suite of an except clause. -/
namespace PL
open PySem PySem.Spec PyProof.Rows L2 LamX
/-- the names in a suite -/
def Tb.hts (tb : Tb) : Tb := { tb with lv := true, hot := true, lm := fun _ => none, fn := fun _ => none, r1 := fun _ => false, r0 := fun _ => false, fd := fun _ => false }
/-- the classes of exceptions -/
structure XF (fx : Fx) (tb : Tb) (C : Cfg) : Prop where
  exc : ∀ k l, C.xs k = some l → ExcC fx.K (fx.ca k)
  one : ∀ k l c, C.xs k = some l → tb.isX c = true → PySem.W.kitOne fx.K (.ref (fx.ca k)) (.ref (fx.ca c)) = some (decide (c ∈ l))
  val : ∀ k l, C.xs k = some l → PySem.W.kitOne fx.K (.ref (fx.ca k)) (.type "ValueError") = some true
  cls : ∀ c x, tb.isX c = true → tb.cl c = some x → True
  exm : ∀ k l c, C.xs k = some l → tb.isX c = true → PySem.W.exmOne fx.K (.ref (fx.ca k)) (.ref (fx.ca c)) = some (decide (c ∈ l))
  fl : ∀ k n, C.xf k = some n → fx.xn k = fx.nm n ∧ ExcC fx.K (fx.ca k) ∧ ExFl fx.K (fx.ca k) (fx.nm n)
def eisB (l : List Nat) : Option Nat → Bool
  | none => true
  | some c => decide (c ∈ l)
section
variable {tb : Tb} {C : Cfg} {fx : Fx} {lev : Nat} {N : List Str} {Z : XW} {sc : Scope} {X : Cx} {a : Addr} {oe : Obj} {cls : Value} {d : Option Addr} {pn : List (Addr × Obj)} {Z' : XW}
theorem eis_at {k : Option Nat} {x y : Str} {p p1 p2 pos : Pos} {i : Nat} {v : V} {u : Value} (F : XF fx tb C) (hK : X.K = fx.K) (hz : L2.Zc cls d oe) (hf : ∃ vs, oe.data = .fields vs) (hg : Gl (X.suite a ((a, oe) :: pn)) "isinstance") (hm : X.mg "isinstance" = none)
    (hx : PE (X.suite a ((a, oe) :: pn)) (.Name x p1) (tVar i)) (hy : PE (X.suite a ((a, oe) :: pn)) (.Name y p2) (tC v)) (hu : ∀ u', L2.RelV v u' → u' = u)
    (hk : ∀ c l, C.xs c = some l → PySem.W.kitOne fx.K (.ref (fx.ca c)) u = some (eisB l k)) : PE (X.suite a ((a, oe) :: pn)) (.Call (.Name "isinstance" p) [.Name x p1, .Name y p2] [] pos) (TD (fx.sxx (some (a, cls, d))) Z (eisE C i k)) := by
  refine ⟨fun pins s σ H Q I ⟨w, R, ρ, h, fr, o⟩ => ?_⟩
  unfold eisE at o
  cases e0 : ρ[i]? with
  | none => rw [e0] at o; exact o.elim
  | some sl =>
    rw [e0] at o
    cases sl with
    | exn e =>
      obtain ⟨a', cls', d', q1, q2, xr⟩ := fr.sr.at_ i _ e0
      cases q1
      dsimp only at o
      cases e1 : C.xs e.cls with
      | none => rw [e1] at o; exact o.elim
      | some l =>
        rw [e1] at o
        dsimp only at o
        have o2 : PD (fx.sxx (some (a, cls, d))) Q w R (.bl (eisB l k)) h := by
          cases k with
          | none => exact o
          | some c => exact o
        have fin : Q (.bl (eisB l k)) H := o2 w _ H (Wle.refl _) fr.hr rfl
        have ec : cls = .ref (fx.ca e.cls) := xr.1
        have kk := hk _ _ e1
        rw [← hK] at kk
        have Ex : ExcC X.K (fx.ca e.cls) := hK ▸ F.exc _ _ e1
        subst ec
        obtain ⟨ecl, as⟩ := e
        have xr2 := xr.2
        cases as with
        | nil =>
          have ed : d = none := xr2
          subst ed
          exact (pe_callB (call_isE Ex hz hf) hg hm (by rfl) (pa_cons hx (pa_cons hy pa_nil))).run pins s σ H Q I ⟨_, q2, v, u, _, rfl, hu, kk, fin⟩
        | cons z zs =>
          cases zs with
          | nil =>
            obtain ⟨dd, vv, ed, eF, rv⟩ := xr2
            subst ed
            exact (pe_callB (call_isX Ex hz hf) hg hm (by rfl) (pa_cons hx (pa_cons hy pa_nil))).run pins s σ H Q I ⟨_, q2, v, u, _, _, rfl, fr.hr.sF _ _ eF, hu, kk, fin⟩
          | cons _ _ => exact xr2.elim
    | _ => exact o.elim
theorem efld_at {n : Nat} {x : Str} {p pos : Pos} {i : Nat} (F : XF fx tb C) (hK : X.K = fx.K) (hz : L2.Zc cls d oe) (hf : ∃ vs, oe.data = .fields vs) (hx : PE (X.suite a ((a, oe) :: pn)) (.Name x p) (tVar i)) :
    PE (X.suite a ((a, oe) :: pn)) (.Attribute (.Name x p) (fx.nm n) pos) (TD (fx.sxx (some (a, cls, d))) Z (efldE C i n)) := by
  refine ⟨fun pins s σ H Q I ⟨w, R, ρ, h, fr, o⟩ => ?_⟩
  unfold efldE at o
  cases e0 : ρ[i]? with
  | none => rw [e0] at o; exact o.elim
  | some sl =>
    rw [e0] at o
    cases sl with
    | exn e =>
      obtain ⟨a', cls', d', q1, q2, xr⟩ := fr.sr.at_ i _ e0
      cases q1
      obtain ⟨ecl, as⟩ := e
      cases as with
      | nil => exact o.elim
      | cons z zs =>
        cases zs with
        | cons _ _ => exact o.elim
        | nil =>
          dsimp only at o
          by_cases hn : C.xf ecl = some n
          · rw [if_pos hn] at o
            obtain ⟨f1, f2, f3⟩ := F.fl _ _ hn
            obtain ⟨ec, dd, vv, ed, eF, rv⟩ := xr
            have ec : cls = .ref (fx.ca ecl) := ec
            have rv : Rel (fx.sxx (some (a, cls, d))) w z vv := rv
            have o2 : Q vv H := o w vv H (Wle.refl _) fr.hr rv
            have eF : w.F dd = some (.xd [(fx.xn ecl, vv)]) := eF
            rw [f1] at eF
            exact (pe_exf (f := fx.nm n) (hK ▸ f2) (hK ▸ f3) hz hf rfl hx).run pins s σ H Q I ⟨_, q2, rfl, ec, dd, vv, ed, fr.hr.sF _ _ eF, o2⟩
          · rw [if_neg hn] at o; exact o.elim
    | _ => exact o.elim
theorem CF.sxx {z : Option (Addr × Value × Option Addr)} {sup : Nat → Option (List Nat)} (c : CF fx sup) : CF (fx.sxx z) sup := ⟨c.cls, c.ha, c.hn, c.tk, c.mro, c.kcc, c.ktc, c.kct⟩
theorem XF.hts (F : XF fx tb C) : XF fx tb.hts C := ⟨F.exc, F.one, F.val, F.cls, F.exm, F.fl⟩
/-- in the suite -/
theorem Ctx.suite (c : Ctx tb C fx lev N Z sc X) (F : XF fx tb C) (hz0 : L2N.Zn cls d oe) (hf : ∃ vs, oe.data = .fields vs) : Ctx tb.hts C (fx.sxx (some (a, cls, d))) lev N ZF sc (X.suite a ((a, oe) :: pn)) := by
  have hz := hz0.zc
  have cy : Cty tb.hts C (fx.sxx (some (a, cls, d))) lev N ZF sc (X.suite a ((a, oe) :: pn)) := {
    hK := c.hK
    calm := fun h => absurd (show true = false from h) (by decide)
    room := fun h => absurd (show true = false from h) (by decide)
    uni := c.uni
    hN := c.hN
    nd := c.nd
    hsc := c.hsc
    tk := fun u s' xx => by
      obtain ⟨_, _, _, _, _, _, _, _, _, _, _, _, _, _, _, _, z⟩ := xx
      obtain ⟨_, _, _, _, _, _, z⟩ := z
      exact z.elim
    free := c.free
    fcf := fun f j x e => by cases (show none = some x from e)
    glo := fun g x e => by
      obtain ⟨d1, v, u, e1, e2, e3, e4⟩ := c.glo g x e
      exact ⟨d1, v, u, e1, e2, e3, fun w => (Rel.sxx d1 v).mpr (e4 w)⟩
    cf := c.cf.sxx
    nm := c.nm
    inj := c.inj
    fdf := fun n e => by cases (show false = true from e)
    cls := c.cls
    isC := c.isC
    nod := c.nod
    rz := fun k x e e2 => by cases (show false = true from e2)
    rz0 := fun k x e e2 => by cases (show false = true from e2) }
  refine { cy with eis := ?_, efld := ?_, lam := ?_, hotc := fun _ _ => ⟨(a, oe), ⟨rfl, by obtain ⟨vs, e⟩ := hf; exact ⟨vs, e, hz0.2.2 vs e⟩⟩, List.mem_cons_self⟩, kind := c.kind, fnc := c.fnc, po := ?_ }
  · intro _ i x y k p p1 p2 pos h1 h2 h3 h4
    obtain ⟨g1, g2⟩ := bB_ok cy h4
    obtain ⟨v1, v2, v3, v4⟩ := vB_ok cy h1
    obtain ⟨gy, gd⟩ := gB_ok cy h2
    cases k with
    | none =>
      obtain ⟨e1, e2⟩ := and3 h3
      have := eq_of_beq e1; subst this
      exact eis_at F c.hK hz hf g1 g2 (pe_var v1 v2 v3 v4) (pe_bltn (v := .ty "ValueError") (u := .type "ValueError") gy (cy.free _ (of_decide_eq_true e2)) (by rfl) rfl (by decide) (by decide)) (fun u e => e) (fun cc l e => F.val _ _ e)
    | some cc =>
      obtain ⟨e1, e2⟩ := and3 h3
      exact eis_at F c.hK hz hf g1 g2 (pe_var v1 v2 v3 v4) (pe_glob (v := .ref (fx.ca cc)) gy (cy.cls cc _ (of_decide_eq_true e1)) rfl gd) (fun u e => e) (fun ck l e => F.one _ _ _ e e2)
  · intro _ i n x p pos h1
    obtain ⟨v1, v2, v3, v4⟩ := vB_ok cy h1
    rw [← show fx.nm n = tb.hts.nm n from congrFun c.nm n]
    exact efld_at F c.hK hz hf (pe_var v1 v2 v3 v4)
  · intro _ z
    cases (show true = false from z)
  · exact fun e s' z => z.elim
end
end PL
end
section
set_option Elab.async false
set_option linter.all false
set_option maxHeartbeats 2000000
/-! PL26: a def that calls the lambda that it got. -/
namespace PL
open PySem PySem.Spec PyProof.Rows L2 LamX
section
variable {fx : Fx} {w : Wd}
/-- the same, with another lambda at hand -/
def Fx.saf (fx : Fx) (z : Option Addr) : Fx := { fx with sa := z }
variable {z : Option Addr}
mutual
theorem Rel.saf : ∀ (d : D) (v : V), Rel (fx.saf z) w d v ↔ Rel fx w d v
  | .non, v => Iff.rfl
  | .bl _, v => Iff.rfl
  | .int _, v => Iff.rfl
  | .str _, v => Iff.rfl
  | .tup ds, v => ⟨fun ⟨a, vs, e, q, r⟩ => ⟨a, vs, e, q, (Rels.saf ds vs).mp r⟩, fun ⟨a, vs, e, q, r⟩ => ⟨a, vs, e, q, (Rels.saf ds vs).mpr r⟩⟩
  | .lst ds, v => ⟨fun ⟨a, vs, e, q, r⟩ => ⟨a, vs, e, q, (Rels.saf ds vs).mp r⟩, fun ⟨a, vs, e, q, r⟩ => ⟨a, vs, e, q, (Rels.saf ds vs).mpr r⟩⟩
  | .scr _, v => Iff.rfl
  | .dk _ ds, v => ⟨fun ⟨a, vs, e, q, l, r⟩ => ⟨a, vs, e, q, l, (Rels.saf ds vs).mp r⟩, fun ⟨a, vs, e, q, l, r⟩ => ⟨a, vs, e, q, l, (Rels.saf ds vs).mpr r⟩⟩
  | .obj _ _ ds, v => ⟨fun ⟨a, dx, vs, e, q, l, r⟩ => ⟨a, dx, vs, e, q, l, (Rels.saf ds vs).mp r⟩, fun ⟨a, dx, vs, e, q, l, r⟩ => ⟨a, dx, vs, e, q, l, (Rels.saf ds vs).mpr r⟩⟩
  | .ref _, v => Iff.rfl
theorem Rels.saf : ∀ (ds : List D) (vs : List V), Rels (fx.saf z) w ds vs ↔ Rels fx w ds vs
  | [], vs => Iff.rfl
  | d :: ds, vs => ⟨fun ⟨v, r, e, a, b⟩ => ⟨v, r, e, (Rel.saf d v).mp a, (Rels.saf ds r).mp b⟩, fun ⟨v, r, e, a, b⟩ => ⟨v, r, e, (Rel.saf d v).mpr a, (Rels.saf ds r).mpr b⟩⟩
end
theorem CRel.saf : ∀ (c : HC) (o : HO), CRel (fx.saf z) w c o ↔ CRel fx w c o
  | .lst ds, o => ⟨fun ⟨vs, e, r⟩ => ⟨vs, e, (Rels.saf ds vs).mp r⟩, fun ⟨vs, e, r⟩ => ⟨vs, e, (Rels.saf ds vs).mpr r⟩⟩
  | .dk _ ds, o => ⟨fun ⟨vs, e, l, r⟩ => ⟨vs, e, l, (Rels.saf ds vs).mp r⟩, fun ⟨vs, e, l, r⟩ => ⟨vs, e, l, (Rels.saf ds vs).mpr r⟩⟩
  | .ins _ _ ds, o => ⟨fun ⟨dx, vs, e, l, r⟩ => ⟨dx, vs, e, l, (Rels.saf ds vs).mp r⟩, fun ⟨dx, vs, e, l, r⟩ => ⟨dx, vs, e, l, (Rels.saf ds vs).mpr r⟩⟩
theorem XRel.saf {e : Exn} {cls : Value} {d : Option Addr} : XRel (fx.saf z) w e cls d ↔ XRel fx w e cls d := by
  obtain ⟨c, as⟩ := e
  cases as with
  | nil => exact Iff.rfl
  | cons x xs =>
    cases xs with
    | nil => exact ⟨fun ⟨h, a, v, e1, e2, e3⟩ => ⟨h, a, v, e1, e2, (Rel.saf x v).mp e3⟩, fun ⟨h, a, v, e1, e2, e3⟩ => ⟨h, a, v, e1, e2, (Rel.saf x v).mpr e3⟩⟩
    | cons _ _ => exact Iff.rfl
theorem HR.saf {R : Hp} {h : Hs} {H : Hp} : HR (fx.saf z) w R h H ↔ HR fx w R h H :=
  ⟨fun r => ⟨r.sF, r.sR, r.dis, fun n c e => by obtain ⟨a, o, e1, e2, e3, e4, e5⟩ := r.live n c e; exact ⟨a, o, e1, e2, e3, e4, (CRel.saf c o).mp e5⟩, r.inj, r.rng, r.top, r.ps, r.nF, r.nR⟩,
   fun r => ⟨r.sF, r.sR, r.dis, fun n c e => by obtain ⟨a, o, e1, e2, e3, e4, e5⟩ := r.live n c e; exact ⟨a, o, e1, e2, e3, e4, (CRel.saf c o).mpr e5⟩, r.inj, r.rng, r.top, r.ps, r.nF, r.nR⟩⟩
theorem CF.saf {sup : Nat → Option (List Nat)} (c : CF fx sup) : CF (fx.saf z) sup := ⟨c.cls, c.ha, c.hn, c.tk, c.mro, c.kcc, c.ktc, c.kct⟩
theorem XF.saf {tb : Tb} {C : Cfg} (F : XF fx tb C) : XF (fx.saf z) tb C := ⟨F.exc, F.one, F.val, F.cls, F.exm, F.fl⟩
theorem zf_stdR : StdR ZF := fun _ _ _ _ _ _ h => h
end
end PL
end
section
set_option Elab.async false
set_option linter.all false
set_option maxHeartbeats 2000000
/-! PL27a: x(lambda: e) with exceptions that have no context. -/
namespace PL
open PySem PySem.Spec PyProof.Rows L2 LamX
/-- the context of a lambda's body; its exceptions have no context -/
def lcx (X : Cx) (A : Around) (outer : List PySem.Env) (s : Shared) (H : Hp) (E : XK) (sc : Scope) (f cc : Addr) : Cx := { lamCx X A outer s H E sc f cc with
  xe := fun e s1 => wpAny (model X.prog X.w) (A.deeper (lamEnv X sc s.heap.objs.size f cc)) (leaving (lamEnv X sc s.heap.objs.size f cc) e) (fun _ t => L2N.CX X.prog X.w outer H s E e t) (fun u t => L2N.CX X.prog X.w outer H s E u t) s1 }
section
variable {X : Cx} {pins : List (Addr × Obj)} {σ : L2.St} {H HZ : Hp} {s s1 : Shared}
theorem lcx_inv {A : Around} {outer : List PySem.Env} {E : XK} {sc : Scope} {f cc : Addr} {pi : List (Addr × Obj)} {τ : L2.St} {G : Hp} {t : Shared} (I : Inv (lamCx X A outer s1 HZ E sc f cc) pi τ G t) : Inv (lcx X A outer s1 HZ E sc f cc) pi τ G t :=
  ⟨⟨I.ok.mod, I.ok.kind, I.ok.glob, I.ok.blt, I.ok.above, I.ok.inj, I.ok.has, I.ok.cab, I.ok.hd, I.ok.frames, I.ok.stk, I.ok.exf, I.ok.bs, I.ok.bsz, I.ok.noex, I.ok.exfs, I.ok.funs, I.ok.frf⟩, I.os, I.bare, I.base, I.loc, I.cell, I.free, I.freeC, I.pin, I.hok, I.len⟩
abbrev rcx (X : Cx) (Ng : List Str) (x : Str) (sg : Scope) (g : Addr) (cdg : Value) (s : Shared) (H : Hp) : Cx := cxOf C8.CX0 X.prog X.w X.K X.mg X.base Ng x sg g cdg X.A X.stack s H C8.E0
/-- a(), a the raiser's parameter -/
theorem pe_acts {Ng : List Str} {qg : Str} {sg : Scope} {g f cc : Addr} {cdg pm cv : Value} {params : Arguments} {body : Expr} {sc : Scope} {k : Nat} {a : Str} {pn : List (Addr × Obj)} {xe : Value → Shared → Prop} {W : WX} {E : XK} {tb : TE} {p1 p2 : Pos}
    (I : Inv X pins σ H s) (L : LamS X.env.scope sc) (hf : s.heap.get? f = some (PySem.W.kla_obj "<lambda>" (X.env.qual ++ "<lambda>") params body sc (cloFrom X.env.cells sc.names []) pm cc cv)) (hfn : H f = none) (hfr : f ∉ frs X.stack)
    (hbd : bindArgs (PySem.W.kla_fn "<lambda>" (X.env.qual ++ "<lambda>") params body sc (cloFrom X.env.cells sc.names []) pm (.ref cc) cv) ⟨[], []⟩ = pure [])
    (tk : L2N.Takes ((rcx X Ng qg sg g cdg s H).tr pn xe) W) (hW : ∀ cls d τ G, E cls d G → W cls d τ G) (hr : Room (k + 1) (X.A.deeper (envOfC qg sg s.heap.objs.size g cdg)))
    (hb : ∀ (A : Around) (outer : List PySem.Env) (s : Shared) (H : Hp), Room k (A.deeper (lamEnv X sc s.heap.objs.size f cc)) → PE (lcx X A outer s H E sc f cc) body tb)
    (hN : Ng[0]? = some a) (hv : Vis sg a) (hd : (a == ("__debug__" : Str)) = false) (hcd : (a == ("__classdict__" : Str)) = false) :
    PE ((rcx X Ng qg sg g cdg s H).tr pn xe) (.Call (.Name a p1) [] [] p2) (fun τ G Q => τ[0]? = some (some (.ref f)) ∧ G cc = some (CodeO cc (X.env.qual ++ "<lambda>")) ∧ tb σ G Q) := by
  refine ⟨fun piz sZ τ G Q IZ ⟨hs, hc, ht⟩ => ?_⟩
  refine wpAny_Call_Name_kw (thn ((pe_var (pos := p1) (i := 0) hN hv hd hcd).run piz sZ τ G (fun v F => v = .ref f ∧ F = G) IZ ⟨.ref f, hs, rfl, rfl⟩) fun u s2 ⟨v, G1, I1, r1, ev, eG⟩ => ?_)
  subst ev
  subst eG
  obtain rfl : u = Value.ref f := r1
  have of1 := I1.base.keep f _ hf hfn hfr (fun z => nomatch (show f ∈ ([] : List Addr) from z))
  have un : Un (frs X.stack) [] H G1 s.heap s2.heap := I1.base
  obtain ⟨⟨oc, vs, t, e1, e2, e3⟩, _, _⟩ := I1.hok cc _ hc
  have hx : Passes (L2N.CX X.prog X.w) ((rcx X Ng qg sg g cdg s H).tr pn xe) E := L2N.passes_call tk hW
  have rc : codeAny (model X.prog X.w) (X.A.deeper (envOfC qg sg s.heap.objs.size g cdg)) (.call (.ref f) ⟨[], []⟩) (CR (L2N.CX X.prog X.w) (envOfC qg sg s.heap.objs.size g cdg :: X.stack) X.prog X.w G1 s2 Q E) s2 := by
    refine PySem.W.kla_callFunE hr.depth of1 rfl L.co L.gen rfl ⟨cc, oc, vs, t, rfl, e1, e2, e3⟩ ?_
    rw [hbd]
    refine wpAny_pure (wpAny_newFunctionEnv (fun y hy => (L.own y hy).2) (fun y hy => absurd hy (by simp)) (fun h3 hns hsb => ⟨I1.nolimit.fresh _ hsb, ?_⟩) L.kind)
    have kp : ∀ b o, s2.heap.get? b = some o → h3.get? b = some o := fun b o e => by
      refine hsb.extBut b o ?_ (Heap.get?_push_of_some _ e)
      exact Nat.ne_of_lt (Heap.lt_size e)
    have J := lcx_inv (lam_start2 (E := E) (f := f) (c' := cc) (tk := s2.toks + ([] : List (Str × Value)).length) I L I1.env0 hr.hd un hns kp)
    show codeAny _ _ (.expr body (lamEnv X sc s2.heap.objs.size f cc)) _ _
    refine PySem.W.kla_codeExpr (wpAny_mono ((hb _ _ s2 G1 (hr.deeper _)).run [] _ _ G1 Q J ht) (fun v s3 ⟨w', G3, J3, rv, q⟩ => ?_) fun e s3 hq => hq)
    exact ⟨w', G3, J3.os, J3.bare, J3.base, J3.hok, rv, q⟩
  refine PySem.W.callWith_F0 ⟨_, _, _, _, of1⟩ (wpAny_call (codeAny_mono rc fun r s3 hq => ?_))
  cases r with
  | error e => exact hx piz τ G1 s2 e s3 I1 hq
  | ok fl => cases fl with
    | ret u => exact I1.after hq
    | next => exact hq.elim
    | brk => exact hq.elim
    | cont => exact hq.elim
/-- the raiser at g makes TT of the lambda's reading -/
def Gives (X : Cx) (Ng : List Str) (x : Str) (sg : Scope) (g : Addr) (cdg : Value) (bg : List Stmt) (a q : Str) (TT : (XK → Hp → VK → Prop) → Hp → VK → Prop) : Prop :=
  ∀ (f cc : Addr) (s : Shared) (H : Hp) (Q : VK) (tl : XK → Hp → VK → Prop),
    (∀ (W : WX) (pn : List (Addr × Obj)) (xe : Value → Shared → Prop) (E : XK) (p1 p2 : Pos), L2N.Takes ((rcx X Ng x sg g cdg s H).tr pn xe) W → (∀ cls d τ G, E cls d G → W cls d τ G) →
      PE ((rcx X Ng x sg g cdg s H).tr pn xe) (.Call (.Name a p1) [] [] p2) (fun τ G Q => τ[0]? = some (some (.ref f)) ∧ G cc = some (CodeO cc q) ∧ tl E G Q)) →
    H cc = some (CodeO cc q) → TT tl H Q → ∃ t, PSs (rcx X Ng x sg g cdg s H).nox bg t ∧ t { nx := fun _ G => Q .non G, rt := Q } (L2.start Ng [.ref f]) H
/-- x(lambda: body) -/
theorem pe_lams {T : List (Addr × Str)} {TT : (XK → Hp → VK → Prop) → Hp → VK → Prop} {x a : Str} {g c P : Addr} {k : Nat} {pg : Arguments} {bg : List Stmt} {sg : Scope} {dV kV doc pm cdv ct oc : Value} {an od : Option Addr} {osl : Array (Option Value)} {Ng : List Str}
    {params : Arguments} {body : Expr} {sc : Scope} {t : XK → TE} {p lp pos : Pos} (hg : Gl X x) (hm : X.mg x = some (.ref g)) (hk : PySem.W.keepIn X.K (.ref g) = true)
    (lk : X.K.lookup g = some ⟨oc, od, .func (PySem.W.fnOf x x pg bg sg dV kV doc pm an cdv ct), osl⟩) (hcg : PySem.W.codeIn X.K cdv x = true) (hbi : L2.Binds X.K (PySem.W.fnOf x x pg bg sg dV kV doc pm an cdv ct) [a] [])
    (Sg : FnScope Ng [a] sg) (hN0 : Ng[0]? = some a) (hva : Vis sg a) (hG : Gives X Ng x sg g cdv bg a (X.env.qual ++ "<lambda>") TT) (TB : TabB X.base X.mg c P) (hcode : X.env.code = .ref c) (hmT : (P, X.env.qual ++ "<lambda>") ∈ T)
    (hu : ∀ p ∈ T, p.1 = P → p.2 = X.env.qual ++ "<lambda>") (hr : Room (k + 2) X.A) (L : LamS X.env.scope sc) (hdf : defaultsOf params X.env = ([], []))
    (hbd : ∀ (q : Str) (cl : List (Str × Addr)) (pm cv tv : Value), bindArgs (PySem.W.kla_fn "<lambda>" q params body sc cl pm cv tv) ⟨[], []⟩ = pure [])
    (hb : ∀ (A : Around) (outer : List PySem.Env) (s : Shared) (H : Hp) (E : XK) (f cc : Addr), Room k (A.deeper (lamEnv X sc s.heap.objs.size f cc)) → PE (lcx X A outer s H E sc f cc) body (t E))
    (hx : (x == ("__debug__" : Str)) = false) (hd : (a == ("__debug__" : Str)) = false) (hcd : (a == ("__classdict__" : Str)) = false) : PE X (.Call (.Name x p) [.Lambda params body sc lp] [] pos) (tLam T TT t) := by
  refine ⟨fun pins s σ H Q I ⟨hT, h⟩ => wpAny_Call_Name_kw (ld_glob I hg hm ?_ hx)⟩
  refine PySem.W.callWith_K (h₀ := X.base) I.ok.mod.kin hk ?_ (by rfl) (by rfl)
  show wpAny _ _ (spliced ((false, eval (.Lambda params body sc lp) X.env) :: backTo pos (starEach [] X.env))) _ _ s
  refine Calls.spliced_cons (lam_make2 I TB hcode hmT hu hT hdf (L.has I.ok) fun f cc pm2 cv2 H1 s2 I1 eN T1 hf hfn hfr hco => Calls.spliced_nil ⟨I1.kIn, ?_⟩)
  have rc : codeAny (model X.prog X.w) X.A (.call (.ref g) ⟨[.ref f], []⟩) (CR C8.CX0 X.stack X.prog X.w H1 s2 Q C8.E0) s2 := by
    refine run_ofS (N := Ng) (ps := [a]) (us := [.ref f]) (vs := [.ref f]) lk hcg Sg hr I1.env0 (hbi s2 [.ref f] I1.kIn rfl) (.cons rfl .nil) rfl fun hr2 => ?_
    obtain ⟨t2, k2, q2⟩ := hG f cc s2 H1 Q (fun E G Q => t E σ G Q) (fun W pn xe E p1 p2 tk hW => pe_acts I1 L hf hfn hfr (hbd _ _ _ _ _) tk hW hr2 (fun A outer s H hr3 => hb A outer s H E f cc hr3) hN0 hva hd hcd) hco (h H1 eN T1)
    exact ⟨t2, k2.nox, q2⟩
  refine wpAny_call (codeAny_mono rc fun r s3 hq => ?_)
  cases r with
  | error e => exact (show False from hq).elim
  | ok fl => cases fl with
    | ret u => exact I1.after hq
    | next => exact hq.elim
    | brk => exact hq.elim
    | cont => exact hq.elim
end
end PL
end
section
set_option Elab.async false
set_option linter.all false
set_option maxHeartbeats 2000000
/-! PL27: the raiser: what it makes of the lambda's reading. -/
namespace PL
open PySem PySem.Spec PyProof.Rows L2 LamX
/-- the raiser's body: try: return ('..', a()) / except x as n: suite -/
def raB (tb : Tb) (N : List Str) (sc : Scope) (a : Str) : List PL.St → List Stmt → Bool
  | [.tryE i cc m (some t) 0 s], [.Try [.Return (some (.Tuple [.Constant (.str tt) j p0, .Call (.Name b p1) [] [] p2] kk p3)) p4] [.ExceptHandler (some (.Name x np)) (some n) (b₀ :: suite) pos'] [] [] pos] =>
    decide (tt = st t) && decide (m = N.length) && nB N i n && isLoc sc n && gB sc x && isB (tb.cl cc) x && tb.isX cc && decide (b = a) && chSs tb.hts N sc s (b₀ :: suite)
  | _, _ => false
def Tb.ra (tb : Tb) : Tb := { tb.hts with lv := false }
/-- the raiser's meaning -/
noncomputable def raM (C : Cfg) (m : Nat) (ir : List PL.St) (mm : M D) : M D := do
  let (fl, _) ← execs { C with lamc := mm } ir (.fn :: List.replicate (m - 1) .non)
  match fl with
  | .nx => M.ret .non
  | .ret x => M.ret x
  | _ => M.fail
/-- what it makes of the lambda's reading -/
def TTra (fx : Fx) (C : Cfg) (m : Nat) (ir : List PL.St) : (XK → Hp → VK → Prop) → Hp → VK → Prop := fun tl H Q => ∃ w R h mm, HR fx w R h H ∧ Out (raM C m ir mm h) (PD fx Q w R) (fun _ _ => False) ∧
  ∀ w' R' h' H' Q' (E : XK), Wle w w' → HR fx w' R' h' H' → Same R R' → Out (mm h') (PD fx Q' w' R') (ZC fx E w' R') → tl E H' Q'
section
variable {tb : Tb} {C : Cfg} {fx : Fx} {lev : Nat} {Z : XW} {sc sg : Scope} {X : Cx} {Ng : List Str} {x a q : Str} {g : Addr} {cdg : Value} {bg : List Stmt} {ir : List PL.St}
/-- the raiser's own context, below that of its caller -/
theorem Cty.raiser {N : List Str} (c : Cty tb C fx lev N Z sc X) {f : Addr} {s : Shared} {H : Hp} {ps : List Str} (Sg : FnScope Ng ps sg) (hu : (X.A.deeper (envOfC x sg s.heap.objs.size g cdg)).units + 64 < cLine) {mm : M D} :
    Ctx tb.ra { C with lamc := mm } (fx.saf (some f)) lev Ng ZF sg (cxOf C8.CX0 X.prog X.w X.K X.mg X.base Ng x sg g cdg X.A X.stack s H C8.E0).nox := {
  hK := c.hK
  calm := fun h => absurd (show true = false from h) (by decide)
  room := fun h => absurd (show true = false from h) (by decide)
  uni := hu
  hN := rfl
  nd := Sg.nd
  hsc := rfl
  tk := fun u s' xx => by
    obtain ⟨_, _, _, _, _, _, _, _, _, _, _, _, _, _, _, _, z⟩ := xx
    obtain ⟨_, _, _, _, _, _, z⟩ := z
    exact z.elim
  free := c.free
  fcf := fun f j x e => by cases (show none = some x from e)
  glo := fun g x e => by
    obtain ⟨d1, v, u, e1, e2, e3, e4⟩ := c.glo g x e
    exact ⟨d1, v, u, e1, e2, e3, fun w => (Rel.saf d1 v).mpr (e4 w)⟩
  cf := c.cf.saf
  nm := c.nm
  inj := c.inj
  fdf := fun n e => by cases (show false = true from e)
  cls := c.cls
  isC := c.isC
  nod := c.nod
  rz := fun k x e e2 => by cases (show false = true from e2)
  rz0 := fun k x e e2 => by cases (show false = true from e2)
  eis := fun z => by cases (show false = true from z)
  efld := fun z => by cases (show false = true from z)
  lam := fun z => by cases (show false = true from z)
  hotc := fun z => by cases (show false = true from z)
  kind := Sg.kind
  fnc := fun _ => rfl
  po := fun e s' z => z.elim }
theorem ra_start {w : Wd} {R : Hp} {h : Hs} {H : Hp} {f : Addr} {m : Nat} (hm : 0 < m) (hN : m = Ng.length) (hr : HR fx w R h H) : FrS (fx.saf (some f)) R w R (.fn :: List.replicate (m - 1) .non) (L2.start Ng [.ref f]) h H := by
  refine ⟨⟨HR.saf.mpr hr, ⟨?_, fun i sl e => ?_⟩⟩, Same.refl _, fun i cc aa e _ => ?_⟩
  · unfold L2.start
    simp [hN]
  · cases i with
    | zero => cases e; exact ⟨f, rfl, rfl⟩
    | succ i =>
      rw [List.getElem?_cons_succ, List.getElem?_replicate] at e
      split at e
      · cases e; trivial
      · cases e
  · cases i with
    | zero => cases e
    | succ i =>
      rw [List.getElem?_cons_succ, List.getElem?_replicate] at e
      split at e <;> cases e
theorem ra_gives {N : List Str} (c : Cty tb C fx lev N Z sc X) (F : XF fx tb C) (Sg : FnScope Ng [a] sg) (hl : 0 < Ng.length) (hu : ∀ s : Shared, (X.A.deeper (envOfC x sg s.heap.objs.size g cdg)).units + 64 < cLine) (h : raB tb Ng sg a ir bg = true) :
    Gives X Ng x sg g cdg bg a q (TTra fx C Ng.length ir) := by
  intro f c' s H Q tl act hc ⟨w, R, h0, mm, hr, o, htl⟩
  unfold raB at h
  split at h
  · rename_i i cc m t sf tt j p0 b p1 p2 kk p3 p4 y np n b₀ suite pos' pos
    simp only [Bool.and_eq_true] at h
    obtain ⟨⟨⟨⟨⟨⟨⟨⟨h1, h2⟩, h3⟩, h4⟩, h5⟩, h6⟩, h7⟩, h8⟩, h9⟩ := h
    have := of_decide_eq_true h1; subst this
    have := of_decide_eq_true h2; subst this
    have := of_decide_eq_true h8; subst this
    have cr := c.raiser (f := f) (s := s) (H := H) (g := g) (cdg := cdg) (x := x) (mm := mm) Sg (hu s)
    obtain ⟨g1, g2⟩ := gB_ok cr.toCty h5
    refine ⟨_, pss_one (js_try (fx := fx.saf (some f)) (Z := ZF) (R0 := R) (C := { C with lamc := mm }) (G := fun w' R' h' H' => Wle w w' ∧ H' c' = some (CodeO c' q)) (f := f) (c' := c') (q := q) (tl := tl) rfl zf_std zf_stdR rfl rfl Sg.nd (of_decide_eq_true h3) (isLoc_ok h4) ⟨g1, g2, .inl (c.cls cc y (of_decide_eq_true h6))⟩ cr.tk
      (fun k l e => by show PySem.W.exmOne X.K _ _ = _; rw [c.hK]; exact F.exm k l cc e h7) (fun W pn xe E p1 p2 tk hW => act W pn xe E p1 p2 tk hW) rfl (fun w' R' h' H' z => z.2) (fun w' R' h' H' Q' E ⟨le, _⟩ hr' sm o' => ?_)
      (fun a' oe cls d pn hz hf => sSs zf_std zf_stdR (cr.suite ⟨F.exc, F.one, F.val, F.cls, F.exm, F.fl⟩ hz hf) sf (b₀ :: suite) h9)), ?_⟩
    · refine htl w' R' h' H' Q' E le (HR.saf.mp hr') sm (o'.imp (fun d h1 z => ?_) fun e h1 z => ?_)
      · exact fun w2 v H2 le2 hr2 r2 => z w2 v H2 le2 (HR.saf.mpr hr2) ((Rel.saf d v).mpr r2)
      · exact fun w2 cls d H2 le2 hr2 xr2 => z w2 cls d H2 le2 (HR.saf.mpr hr2) (XRel.saf.mpr xr2)
    · refine ⟨w, R, _, h0, ⟨Wle.refl _, hc⟩, ra_start (m := Ng.length) hl rfl hr, ?_⟩
      unfold raM at o
      rw [execs] at o
      have o1 := Out.bnd.mp (Out.bnd.mp o)
      rw [exec] at o1
      refine o1.imp (fun y h1 z => ?_) fun _ _ z => z.elim
      obtain ⟨fl, ρ⟩ := y
      cases fl with
      | nx =>
        dsimp only at z
        rw [execs] at z
        have z : PD fx Q w R .non h1 := z
        exact fun w' R' σ' H' le fs => z w' .non H' le (HR.saf.mp (fs.fr.hr.weak fs.s0)) rfl
      | bk => exact z.elim
      | ct => exact z.elim
      | ret d => exact fun w' v H' le hr' r => z w' v H' le (HR.saf.mp hr') ((Rel.saf d v).mp r)
  · cases h
end
end PL
end
section
set_option Elab.async false
set_option linter.all false
set_option maxHeartbeats 2000000
/-! PL28: x(lambda: e). -/
namespace PL
open PySem PySem.Spec PyProof.Rows L2 LamX
/-- no exception comes out -/
def noX (m : M D) : M D := fun h => match m h with
  | .exc _ _ => .bad
  | r => r
theorem Out.noX {m : M D} {h : Hs} {Q : D → Hs → Prop} {Z : Exn → Hs → Prop} (o : Out (PL.noX m h) Q Z) : Out (m h) Q (fun _ _ => False) := by
  unfold PL.noX at o
  cases e : m h with
  | ok d h1 => rw [e] at o; exact o
  | exc _ _ => rw [e] at o; exact o.elim
  | bad => rw [e] at o; exact o.elim
/-- the raiser stands in the text -/
structure RaF (K : PySem.W.Frag) (mg : Str → Option Value) (tb : Tb) (C : Cfg) (f : Nat) (x : Str) : Prop where
  ex : ∃ (g : Addr) (pg : Arguments) (bg : List Stmt) (sg : Scope) (dV kV doc pm cdv ct oc : Value) (an od : Option Addr) (osl : Array (Option Value)) (Ng : List Str) (a : Str) (ir : List PL.St),
    mg x = some (.ref g) ∧ PySem.W.keepIn K (.ref g) = true ∧ K.lookup g = some ⟨oc, od, .func (PySem.W.fnOf x x pg bg sg dV kV doc pm an cdv ct), osl⟩ ∧ PySem.W.codeIn K cdv x = true ∧
    L2.Binds K (PySem.W.fnOf x x pg bg sg dV kV doc pm an cdv ct) [a] [] ∧ FnScope Ng [a] sg ∧ Ng[0]? = some a ∧ Vis sg a ∧ (a == ("__debug__" : Str)) = false ∧ (a == ("__classdict__" : Str)) = false ∧
    raB tb Ng sg a ir bg = true ∧ C.hnd f = (fun mm => noX (raM { C with hnd := fun _ r => r } Ng.length ir mm))
section
variable {tb : Tb} {C : Cfg} {fx : Fx} {lev : Nat} {Z : XW} {sc : Scope} {X : Cx} {N : List Str}
/-- the context of the lambda's body -/
theorem Cty.lam_body (c : Cty tb C fx lev N Z sc X) {A : Around} {outer : List PySem.Env} {s : Shared} {H : Hp} {E : XK} {scope : Scope} {f c' : Addr} (hr : Room (lev + 2) (A.deeper (lamEnv X scope s.heap.objs.size f c'))) (hu : (A.deeper (lamEnv X scope s.heap.objs.size f c')).units + 64 < cLine) :
    Cty tb.inn C fx lev N (ZC fx E) scope (lcx X A outer s H E scope f c') := {
  hK := c.hK
  calm := fun _ => rfl
  room := fun _ => hr
  uni := hu
  hN := c.hN
  nd := c.nd
  hsc := rfl
  tk := fun u s' xx => by
    refine L2N.takes_of rfl rfl rfl rfl u s' ?_
    obtain ⟨a, B, sI, pins, σ, H', cls, d, e, I, nb, up, sky, na, os, ag, wz⟩ := xx
    obtain ⟨w', R', en, h', hr', xr, z⟩ := wz
    exact ⟨a, B, sI, pins, σ, H', cls, d, e, I, nb, up, sky, na, os, ag, z w' cls d H' (Wle.refl _) hr' xr⟩
  free := c.free
  fcf := c.fcf
  glo := c.glo
  cf := c.cf
  nm := c.nm
  inj := c.inj
  fdf := c.fdf
  cls := c.cls
  isC := c.isC
  nod := c.nod
  rz := c.rz
  rz0 := c.rz0 }
theorem HR.extN {w : Wd} {R : Hp} {h : Hs} {H H1 : Hp} (r : HR fx w R h H) (e : ExtN H H1) (p : fx.P H1) : HR fx w R h H1 := by
  have k : ∀ a o, H a = some o → noT o = true → H1 a = some o := fun a o e1 e2 => e a o e1 fun ps z => by rw [z] at e2; cases e2
  exact ⟨fun a o z => k a o (r.sF a o z) (r.nF a o z), fun a o z => k a o (r.sR a o z) (r.nR a o z), r.dis, fun n c z => by
    obtain ⟨a, o, e1, e2, e3, e4, e5⟩ := r.live n c z
    exact ⟨a, o, e1, e2, e3, k a o e4 e5.noT, e5⟩, r.inj, fun n a z => by
    obtain ⟨⟨o, e1, e2⟩, e3⟩ := r.rng n a z
    exact ⟨⟨o, k a o e1 e2, e2⟩, e3⟩, r.top, p, r.nF, r.nR⟩
theorem Cty.nohnd (c : Cty tb C fx lev N Z sc X) : Cty tb { C with hnd := fun _ r => r } fx lev N Z sc X := ⟨c.hK, c.calm, c.room, c.uni, c.hN, c.nd, c.hsc, c.tk, c.free, c.fcf, c.glo, c.cf, c.nm, c.inj, c.fdf, c.cls, c.isC, c.rz, c.rz0, c.nod⟩
theorem SR.same {w w' : Wd} {R R' : Hp} {ρ : PL.Env} {σ : L2.St} (s : SR fx w R ρ σ) (le : Wle w w') (e : Same R R') : SR fx w' R' ρ σ := by
  have s := s.mono le
  refine ⟨s.len, fun i x q => ?_⟩
  have z := s.at_ i x q
  cases x with
  | non => trivial
  | val d => exact z
  | own c => obtain ⟨a, u, e1, e2, r⟩ := z; exact ⟨a, u, e1, e _ _ e2, r⟩
  | fn => exact z
  | exn y => exact z
theorem lam_ok {T : List (Addr × Str)} {cc P : Addr} {f : Nat} {x : Str} {m : PL.Env → M D} {params : Arguments} {body : Expr} {scope : Scope} {p lp pos : Pos} (c : Cty tb C fx lev N Z sc X) (F : XF fx tb C) (Ra : RaF X.K X.mg tb C f x) (hr : Room (lev + 4) X.A)
    (hT : ∀ H, fx.P H ↔ Tabs T H) (TB : TabB X.base X.mg cc P) (hcode : X.env.code = .ref cc) (hmT : (P, X.env.qual ++ "<lambda>") ∈ T) (hu : ∀ p ∈ T, p.1 = P → p.2 = X.env.qual ++ "<lambda>")
    (hg : gB sc x = true) (hs : lamSB sc scope = true) (hp : lamB params = true)
    (hb : ∀ (X' : Cx) (E : XK), Cty tb.inn C fx lev N (ZC fx E) scope X' → PE X' body (TD fx (ZC fx E) m)) : PE X (.Call (.Name x p) [.Lambda params body scope lp] [] pos) (TD fx Z fun ρ => C.hnd f (m ρ)) := by
  obtain ⟨g, pg, bg, sg, dV, kV, doc, pm, cdv, ct, oc, an, od, osl, Ng, a, ir, hm, hk, lk, hcg, hbd, Sg, hN0, hva, hd1, hd2, hra, hhn⟩ := Ra
  obtain ⟨gl, gd⟩ := gB_ok c hg
  have hpar : params = ⟨[], [], none, [], [], none, []⟩ := by
    unfold lamB at hp
    split at hp
    · rfl
    · cases hp
  subst hpar
  have hl : 0 < Ng.length := by
    cases Ng with
    | nil => cases hN0
    | cons _ _ => exact Nat.succ_pos _
  have un : ∀ (A : Around) (e : PySem.Env), Room (lev + 2) (A.deeper e) → (A.deeper e).units + 64 < cLine := fun A e r => by have := r.un; omega
  have hsc := c.hsc
  refine PE.imp (pe_lams (T := T) (k := lev + 2) (t := fun E => TD fx (ZC fx E) m) gl hm hk lk hcg hbd Sg hN0 hva (ra_gives c.nohnd ⟨F.exc, F.one, F.val, F.cls, F.exm, F.fl⟩ Sg hl (fun s => by have := (hr.deeper (envOfC x sg s.heap.objs.size g cdv)).un; omega) hra) TB hcode hmT hu hr (lamS_by (by rw [hsc]; exact hs)) rfl (fun _ _ _ _ _ => rfl)
    (fun A outer s H E f' c' hr2 => hb _ E (c.lam_body hr2 (un _ _ hr2))) gd hd1 hd2) fun σ H Q ⟨w, R, ρ, h, fr, o⟩ => ?_
  refine ⟨(hT H).mp fr.hr.ps, fun H1 eN t1 => ⟨w, R, h, m ρ, fr.hr.extN eN ((hT H1).mpr t1), ?_, fun w' R' h' H' Q' E le hr' sm o2 => ⟨w', R', ρ, h', ⟨hr', fr.sr.same le sm⟩, o2⟩⟩⟩
  rw [hhn] at o
  exact o.noX
end
end PL
end
section
set_option Elab.async false
set_option linter.all false
set_option maxHeartbeats 2000000
/-! PL29: a program of defs: its meaning, and that it keeps it. -/
namespace PL
open PySem PySem.Spec PyProof.Rows L2 LamX
/-- a def: its parameters, its slots, its body -/
structure Df where
  n : Nat
  m : Nat
  body : List St
structure Pg where
  df : Nat → Option Df
  dfl : Nat → Nat → List D
  glo : Nat → Option D
  sup : Nat → Option (List Nat)
  /-- the raisers: slots, body -/
  ra : Nat → Option (Nat × List St)
  xf : Nat → Option Nat
  xs : Nat → Option (List Nat)
def runB (r : MS) (d : Df) (ds : List D) : M D := if ds.length = d.n then do
    let (fl, _) ← r (ds.map .val ++ List.replicate (d.m - d.n) .non)
    match fl with
    | .nx => M.ret .non
    | .ret x => M.ret x
    | _ => M.fail
  else M.fail
/-- without calls with lambdas -/
def mkC0 (p : Pg) (c : Nat → List D → M D) : Cfg := ⟨c, p.dfl, fun _ _ _ _ => M.fail, fun _ _ => M.fail, fun _ _ _ _ => M.fail, fun _ _ => none, fun _ _ => none, p.glo, p.sup, fun _ r => r, M.fail, p.xf, p.xs⟩
noncomputable def mkC (p : Pg) (c : Nat → List D → M D) : Cfg := { mkC0 p c with hnd := fun f mm => match p.ra f with
  | some (m, ir) => noX (raM (mkC0 p c) m ir mm)
  | none => M.fail }
/-- calls, k deep -/
noncomputable def callF (p : Pg) : Nat → Nat → List D → M D
  | 0, _, _ => M.fail
  | k + 1, f, ds => match p.df f with
    | some d => runB (execs (mkC p (callF p k)) d.body) d ds
    | none => M.fail
/-- without calls with lambdas -/
def Tb.nol (tb : Tb) : Tb := { tb with lm := fun _ => none }
/-- what a def with lambdas leans on -/
def LaF (base : Heap) (mg : Str → Option Value) (T : List (Addr × Str)) (qual : Str) (cdv : Value) : Prop := ∃ cc P : Addr, cdv = .ref cc ∧ TabB base mg cc P ∧ (P, qual ++ ".<locals>." ++ "<lambda>") ∈ T ∧ ∀ p ∈ T, p.1 = P → p.2 = qual ++ ".<locals>." ++ "<lambda>"
/-- a def stands in the text -/
structure PrF (P : Program) (w0 : World) (K : PySem.W.Frag) (mg : Str → Option Value) (base : Heap) (fx : Fx) (tb : Tb) (p : Pg) (T : List (Addr × Str)) (f : Nat) (x : Str) : Prop where
  ex : ∃ (qual : Str) (params : Arguments) (body : List Stmt) (scope : Scope) (dvs : List V) (kws : List (Str × V)) (fa : Addr) (fd : FuncData) (N ps : List Str) (ir : List St) (b : Bool),
    FunD K x qual params body scope dvs kws fa fd ∧ mg x = some (.ref fa) ∧ FnScope N ps scope ∧ p.df f = some ⟨ps.length, N.length, ir⟩ ∧ chSs (if b then tb else tb.nol) N scope ir body = true ∧ (b = true → LaF base mg T qual fd.code) ∧
    ∀ j, tb.df f j = true → ∃ ds zs, Binds K fd ps ds ∧ Vals zs ds ∧ ∀ w, Rels fx w (p.dfl f j) zs
/-- the rest of what is known -/
structure StF (P : Program) (w0 : World) (K : PySem.W.Frag) (mg : Str → Option Value) (base : Heap) (fx : Fx) (tb : Tb) (p : Pg) (T : List (Addr × Str)) : Prop where
  hK : fx.K = K
  sa : fx.sa = none
  sx : fx.sx = none
  hot : tb.hot = false
  free : ∀ x ∈ tb.blt, mg x = none
  glo : ∀ g x, tb.gl g = some x → ∃ d v u, p.glo g = some d ∧ mg x = some u ∧ RelV v u ∧ ∀ w, Rel fx w d v
  cf : CF fx p.sup
  nm : fx.nm = tb.nm
  inj : ∀ f g, fx.nm f = fx.nm g → f = g
  fdf : ∀ n, tb.fd n = true → FdF fx p.sup (fx.nm n)
  cls : ∀ c x, tb.cl c = some x → mg x = some (.ref (fx.ca c))
  isC : ∀ c, tb.isC c = true → (p.sup c).isSome = true
  rz : ∀ c x, tb.cl c = some x → tb.r1 c = true → RzF fx K mg x c
  rz0 : ∀ c x, tb.cl c = some x → tb.r0 c = true → RzF0 fx K mg x c
  nod : base.NoDigits
  hT : ∀ H, fx.P H ↔ Tabs T H
  xf : XF fx tb (mkC0 p fun _ _ => M.fail)
  ra : ∀ f x, tb.lm f = some x → ∀ c, RaF K mg tb (mkC p c) f x
section
variable {P : Program} {w0 : World} {K : PySem.W.Frag} {mg : Str → Option Value} {base : Heap} {fx : Fx} {tb : Tb} {p : Pg} {T : List (Addr × Str)}
theorem no_eis {C : Cfg} {Z : XW} {X : Cx} {e : Expr} {i : Nat} {k : Option Nat} (h : fx.sx = none) : PE X e (TD fx Z (eisE C i k)) := ⟨fun pins s σ H Q I ⟨w, R, ρ, hh, fr, o⟩ => by
  exfalso
  unfold eisE at o
  cases q : ρ[i]? with
  | none => rw [q] at o; exact o.elim
  | some sl =>
    rw [q] at o
    cases sl with
    | exn x =>
      obtain ⟨a, _, _, e1, _⟩ := fr.sr.at_ i _ q
      rw [h] at e1; cases e1
    | _ => exact o.elim⟩
theorem no_efld {C : Cfg} {Z : XW} {X : Cx} {e : Expr} {i n : Nat} (h : fx.sx = none) : PE X e (TD fx Z (efldE C i n)) := ⟨fun pins s σ H Q I ⟨w, R, ρ, hh, fr, o⟩ => by
  exfalso
  unfold efldE at o
  cases q : ρ[i]? with
  | none => rw [q] at o; exact o.elim
  | some sl =>
    rw [q] at o
    cases sl with
    | exn x =>
      obtain ⟨a, _, _, e1, _⟩ := fr.sr.at_ i _ q
      rw [h] at e1; cases e1
    | _ => exact o.elim⟩
theorem sr_start {w : Wd} {R : Hp} {ds : List D} {vs : List V} {n : Nat} (r : Rels fx w ds vs) : SR fx w R (ds.map .val ++ List.replicate n .non) (vs.map some ++ List.replicate n none) := by
  refine ⟨by simp [r.length], fun i s e => ?_⟩
  by_cases hi : i < ds.length
  · rw [List.getElem?_append_left (by simpa using hi), List.getElem?_map] at e
    cases q : ds[i]? with
    | none => rw [q] at e; cases e
    | some d =>
      rw [q] at e; cases e
      obtain ⟨v, h1, h2⟩ := Rels.get r q
      refine ⟨v, ?_, h2⟩
      rw [List.getElem?_append_left (by simpa [← r.length] using hi), List.getElem?_map, h1]
      rfl
  · rw [List.getElem?_append_right (by simpa using hi)] at e
    rw [List.getElem?_replicate] at e
    split at e
    · cases e; trivial
    · cases e
theorem frs_start {w : Wd} {R : Hp} {h : Hs} {H : Hp} {ds : List D} {vs : List V} {n : Nat} (hr : HR fx w R h H) (r : Rels fx w ds vs) : FrS fx R w R (ds.map .val ++ List.replicate n .non) (vs.map some ++ List.replicate n none) h H := by
  refine ⟨⟨hr, sr_start r⟩, Same.refl _, fun i c a e _ => ?_⟩
  exfalso
  by_cases hi : i < ds.length
  · rw [List.getElem?_append_left (by simpa using hi), List.getElem?_map] at e
    cases q : ds[i]? with
    | none => rw [q] at e; cases e
    | some d => rw [q] at e; cases e
  · rw [List.getElem?_append_right (by simpa using hi), List.getElem?_replicate] at e
    split at e <;> cases e
/-- a def's rule, its code at hand -/
theorem FunD.okc {x qual : Str} {params : Arguments} {body : List Stmt} {scope : Scope} {dvs : List V} {kws : List (Str × V)} {f : Addr} {fd : FuncData} {cx : CXT} {N ps : List Str} {k : Nat} {sp : Sp} (F : FunD K x qual params body scope dvs kws f fd) (S : FnScope N ps scope) (len : ∀ vs H Q E, sp vs H Q E → vs.length = ps.length)
    (hb : ∀ (A : Around) (outer : List PySem.Env) (s : Shared) (H : Hp) (vs : List V) (Q : VK) (E : XK), Room k (A.deeper (envOfC qual scope s.heap.objs.size f fd.code)) → sp vs H Q E →
      ∃ t, PSs (cxOf cx P w0 K mg base N qual scope f fd.code A outer s H E) body t ∧ t { nx := fun _ H' => Q .non H', rt := Q } (L2.start N vs) H) : FnOk P w0 K mg base cx (k + 1) f fd ps sp := by
  obtain ⟨oc, od, dV, kV, doc, pm, an, cdv, ct, osl, rfl, lk, hcd, _⟩ := F.ex
  exact fn_of lk hcd S len hb
theorem StF.cty (S : StF P w0 K mg base fx tb p T) {k : Nat} {qual : Str} {scope : Scope} {fa : Addr} {cdv : Value} {N ps : List Str} {A : Around} {outer : List PySem.Env} {s : Shared} {H : Hp} {E : XK} (sc : FnScope N ps scope)
    (hr : Room (5 * k + 4) (A.deeper (envOfC qual scope s.heap.objs.size fa cdv)))
    (ih : ∀ f j x, tb.fn f = some x → tb.df f j = true → FcF P w0 K mg base (5 * k) fx x (callF p k f) (p.dfl f j)) : Cty tb (mkC p (callF p k)) fx (5 * k) N (ZC fx E) scope (cxOf (L2N.CX P w0) P w0 K mg base N qual scope fa cdv A outer s H E) := {
    hK := S.hK.symm
    calm := fun _ => rfl
    room := fun _ => hr.mono (by omega)
    uni := by have := hr.un; exact (by omega : (A.deeper (envOfC qual scope s.heap.objs.size fa cdv)).units + 64 < cLine)
    hN := rfl
    nd := sc.nd
    hsc := rfl
    tk := fun u s' xx => by
      refine L2N.takes_of rfl rfl rfl rfl u s' ?_
      obtain ⟨a, B, sI, pins, σ, H', cls, d, e, I, nb, up, sky, na, os, ag, wz⟩ := xx
      obtain ⟨w', R', en, h', hr', xr, z⟩ := wz
      exact ⟨a, B, sI, pins, σ, H', cls, d, e, I, nb, up, sky, na, os, ag, z w' cls d H' (Wle.refl _) hr' xr⟩
    free := S.free
    fcf := ih
    glo := S.glo
    cf := S.cf
    nm := S.nm
    inj := S.inj
    fdf := S.fdf
    cls := S.cls
    isC := S.isC
    rz := S.rz
    rz0 := S.rz0
    nod := S.nod }
theorem Cty.nol {C : Cfg} {lev : Nat} {N : List Str} {Z : XW} {sc : Scope} {X : Cx} (c : Cty tb C fx lev N Z sc X) : Cty tb.nol C fx lev N Z sc X := ⟨c.hK, c.calm, c.room, c.uni, c.hN, c.nd, c.hsc, c.tk, c.free, c.fcf, c.glo, c.cf, c.nm, c.inj, c.fdf, c.cls, c.isC, c.rz, c.rz0, c.nod⟩
/-- a def's meaning, where those that it calls keep theirs -/
theorem def_fn {k f : Nat} {x qual : Str} {params : Arguments} {body : List Stmt} {scope : Scope} {dvs : List V} {kws : List (Str × V)} {fa : Addr} {fd : FuncData} {N ps : List Str} {ir : List St} {b : Bool} (S : StF P w0 K mg base fx tb p T)
    (F : FunD K x qual params body scope dvs kws fa fd) (sc : FnScope N ps scope) (hd : p.df f = some ⟨ps.length, N.length, ir⟩) (hc : chSs (if b then tb else tb.nol) N scope ir body = true) (hla : b = true → LaF base mg T qual fd.code)
    (ih : ∀ f j x, tb.fn f = some x → tb.df f j = true → FcF P w0 K mg base (5 * k) fx x (callF p k f) (p.dfl f j)) : FnOk P w0 K mg base (L2N.CX P w0) (5 * (k + 1)) fa fd ps (spF fx (callF p (k + 1) f) ps.length) := by
  refine FnOk.mono (j := 5 * k + 5) (FunD.okc F sc (fun vs H Q E hh => hh.1) fun A outer s H vs Q E hr hsp => ?_) (by omega)
  obtain ⟨hl, w, R, h, ds', hR, rs, o⟩ := hsp
  have hp : PSs (cxOf (L2N.CX P w0) P w0 K mg base N qual scope fa fd.code A outer s H E) body (TSt fx (ZC fx E) R (execs (mkC p (callF p k)) ir)) := by
    have cy := S.cty (qual := qual) (fa := fa) (cdv := fd.code) (outer := outer) (H := H) (E := E) sc hr ih
    cases b with
    | false =>
      refine sSs (R0 := R) (tb := tb.nol) zc_std zc_stdR { cy.nol with
        kind := sc.kind
        fnc := fun _ => rfl
        po := PassesOwn.leaving
        hotc := fun _ z => absurd (S.hot.symm.trans z) Bool.false_ne_true
        eis := fun _ i x y k p p1 p2 pos _ _ _ _ => no_eis S.sx
        efld := fun _ i n x p pos _ => no_efld S.sx
        lam := fun _ _ f x m params body scope p lp pos e => by cases (show none = some x from e) } ir body hc
    | true =>
      obtain ⟨cc, PP, e1, e2, e3, e4⟩ := hla rfl
      refine sSs (R0 := R) (tb := tb) zc_std zc_stdR { cy with
        kind := sc.kind
        fnc := fun _ => rfl
        po := PassesOwn.leaving
        hotc := fun _ z => absurd (S.hot.symm.trans z) Bool.false_ne_true
        eis := fun _ i x y k p p1 p2 pos _ _ _ _ => no_eis S.sx
        efld := fun _ i n x p pos _ => no_efld S.sx
        lam := fun _ _ f x m params body scope p lp pos e hg hs hp hb => lam_ok cy ⟨S.xf.exc, S.xf.one, S.xf.val, S.xf.cls, S.xf.exm, S.xf.fl⟩ (S.ra f x e _) hr S.hT e2 e1 e3 e4 hg hs hp hb } ir body hc
  refine ⟨_, hp, ?_⟩
  have ln : ds'.length = ps.length := by rw [rs.length]; exact hl
  have o : Out (runB (execs (mkC p (callF p k)) ir) ⟨ps.length, N.length, ir⟩ ds' h) (PD fx Q w R) (ZC fx E w R) := by
    have o := o
    unfold callF at o
    rw [hd] at o
    exact o
  unfold runB at o
  rw [if_pos ln] at o
  refine ⟨w, R, ds'.map .val ++ List.replicate (N.length - ps.length) .non, h, ?_, (Out.bnd.mp o).imp (fun y h1 q => ?_) fun _ _ z => z⟩
  · have := frs_start (n := N.length - ps.length) hR rs
    unfold L2.start
    rw [← hl] at this ⊢
    exact this
  · obtain ⟨fl, ρ⟩ := y
    cases fl with
    | nx =>
      intro w' R' σ' H' le fs
      have q : PD fx Q w R .non h1 := q
      exact q w' .non H' le (fs.fr.hr.weak fs.s0) rfl
    | bk => exact q.elim
    | ct => exact q.elim
    | ret d =>
      intro w' v H' le hr' r
      have q : PD fx Q w R d h1 := q
      exact q w' v H' le hr' r
/-- a def keeps its meaning, where those that it calls keep theirs -/
theorem def_ok {k : Nat} {f j : Nat} {x : Str} (S : StF P w0 K mg base fx tb p T) (F : PrF P w0 K mg base fx tb p T f x) (hj : tb.df f j = true)
    (ih : ∀ f j x, tb.fn f = some x → tb.df f j = true → FcF P w0 K mg base (5 * k) fx x (callF p k f) (p.dfl f j)) : FcF P w0 K mg base (5 * (k + 1)) fx x (callF p (k + 1) f) (p.dfl f j) := by
  obtain ⟨qual, params, body, scope, dvs, kws, fa, fd, N, ps, ir, b, F, hm, sc, hd, hc, hla, hb⟩ := F
  obtain ⟨ds, zs, b1, b2, b3⟩ := hb j hj
  have ar : ∀ zs h P X, Out (callF p (k + 1) f zs h) P X → zs.length = ps.length := fun zs h P X o => by
    unfold callF at o
    rw [hd] at o
    have o : Out (runB (execs (mkC p (callF p k)) ir) ⟨ps.length, N.length, ir⟩ zs h) P X := o
    unfold runB at o
    by_cases hz : zs.length = ps.length
    · exact hz
    · rw [if_neg hz] at o; exact o.elim
  exact ⟨fa, fd, ps, ds, zs, def_fn S F sc hd hc hla ih, hm, F.kp, b1, b2, b3, ar⟩
/-- what a def must give -/
def StepF (P : Program) (w0 : World) (K : PySem.W.Frag) (mg : Str → Option Value) (base : Heap) (fx : Fx) (tb : Tb) (p : Pg) (f : Nat) (x : Str) : Prop :=
  ∀ j, tb.df f j = true → FcF P w0 K mg base 0 fx x (callF p 0 f) (p.dfl f j) ∧
    ∀ k, (∀ f j x, tb.fn f = some x → tb.df f j = true → FcF P w0 K mg base (5 * k) fx x (callF p k f) (p.dfl f j)) → FcF P w0 K mg base (5 * (k + 1)) fx x (callF p (k + 1) f) (p.dfl f j)
theorem def_step {f : Nat} {x : Str} (S : StF P w0 K mg base fx tb p T) (F : PrF P w0 K mg base fx tb p T f x) : StepF P w0 K mg base fx tb p f x := fun j hj => by
  refine ⟨?_, fun k ih => def_ok S F hj ih⟩
  obtain ⟨qual, params, body, scope, dvs, kws, fa, fd, N, ps, ir, b, F, hm, sc, hd, hc, hla, hb⟩ := F
  obtain ⟨ds, zs, b1, b2, b3⟩ := hb j hj
  refine ⟨fa, fd, ps, ds, zs, ⟨fun vs H Q E hh => hh.1, fun A outer s H args us vs Q E _ _ _ _ hsp => ?_⟩, hm, F.kp, b1, b2, b3, fun _ _ _ _ o => o.elim⟩
  obtain ⟨_, w, R, h, ds', _, _, o⟩ := hsp
  exact o.elim
theorem prog_ok (F : ∀ f x, tb.fn f = some x → StepF P w0 K mg base fx tb p f x) : ∀ (k f j : Nat) (x : Str), tb.fn f = some x → tb.df f j = true → FcF P w0 K mg base (5 * k) fx x (callF p k f) (p.dfl f j)
  | 0, f, j, x, hx, hj => (F f x hx j hj).1
  | k + 1, f, j, x, hx, hj => (F f x hx j hj).2 k (prog_ok F k)
end
end PL
end
section
set_option Elab.async false
set_option linter.all false
set_option maxRecDepth 100000
set_option maxHeartbeats 2000000
/-! PL31: the head's facts: a hook that holds the statics, too; the classes of exceptions. -/
namespace PL
open PySem PySem.Spec PyProof.Rows L2 LamX He
/-! ### the hook -/
def asN (g : Addr → Option Obj) (n : Nat) : List Addr := cStatics :: asD g n
def obsN (n : Nat) (fa : List Fa) (fn : List DefD) (ts : List Tab) (tf : List Defn) (ex : PySem.W.Frag → Bool) (g : Addr → Option Obj) : AlX :=
  (obsT fa fn ts (frT g (asN g n)), ex (frT g (asN g n)) && tabsB g tf (frT g (asN g n)))
theorem saysN_of {n : Nat} {fa : List Fa} {fn : List DefD} {ts : List Tab} {tf : List Defn} {ex : PySem.W.Frag → Bool} {w : World} {h : Heap} (e : obsN n fa fn ts tf ex h.get? = valX fn ts w) : SaysX fa fn ts tf ex w h (frT h.get? (asN h.get? n)) := by
  have e1 : obsT fa fn ts (frT h.get? (asN h.get? n)) = valT fn ts w := congrArg Prod.fst e
  have e2 : (ex (frT h.get? (asN h.get? n)) && tabsB h.get? tf (frT h.get? (asN h.get? n))) = true := congrArg Prod.snd e
  obtain ⟨b1, b2⟩ := ba e2
  have key : ∀ p ∈ tf, PySem.W.codeHdIn (frT h.get? (asN h.get? n)) (cT (frT h.get? (asN h.get? n)) p).1 (cT (frT h.get? (asN h.get? n)) p).2 = true ∧ ∃ o, h.get? (cT (frT h.get? (asN h.get? n)) p).2 = some o ∧ emptyTab o = true := fun p hp => by
    obtain ⟨b3, b4⟩ := ba (List.all_eq_true.mp b2 p hp)
    cases q : h.get? (cT (frT h.get? (asN h.get? n)) p).2 with
    | none => rw [q] at b4; cases b4
    | some o =>
      rw [q] at b4
      exact ⟨b3, o, rfl, b4⟩
  refine ⟨e1, b1, fun p hp => (key p hp).1, fun p hp => ?_, fun p hp => ?_⟩
  · obtain ⟨_, o, q, z⟩ := key p hp
    exact frT_none q z
  · obtain ⟨_, o, q, z⟩ := key p hp
    rw [q, emptyTab_eq z]
def hookN (n : Nat) (fa : List Fa) (fn : List DefD) (ts : List Tab) (tf : List Defn) (ex : PySem.W.Frag → Bool) : PySem.W.Hook where
  α := AlX
  obs := fun s => obsN n fa fn ts tf ex s.heap.get?
  val := fun w => valX fn ts w
  says := (hookX n fa fn ts tf ex).says
  of := fun _ _ e => ⟨_, frT_in, saysN_of e⟩
  keeps := (hookX n fa fn ts tf ex).keeps
theorem obsN_eq {n : Nat} {fa : List Fa} {fn : List DefD} {ts : List Tab} {tf : List Defn} {ex : PySem.W.Frag → Bool} {g : Addr → Option Obj} {s : Shared} (h : ∀ a, g a = s.heap.get? a) : obsN n fa fn ts tf ex g = (hookN n fa fn ts tf ex).obs s := by
  have e : g = s.heap.get? := funext h
  subst e
  rfl
/-! ### the limit of digits is not set -/
def nodB (K : PySem.W.Frag) : Bool := match K.lookup cStatics with
  | some ⟨_, _, .dict es _, _⟩ => es.toList.all (fun e => match e.key with | .str _ _ => true | _ => false) && (nsFind es "sys.int_max_str_digits").isNone
  | _ => false
theorem nodB_ok {K : PySem.W.Frag} {h : Heap} (b : nodB K = true) (X : K.In h) : h.NoDigits := by
  unfold nodB at b
  split at b
  · rename_i c d es n sl e
    obtain ⟨b1, b2⟩ := ba b
    refine ⟨nsFind es, ⟨_, es, n, X _ _ e, rfl, fun k hk => ?_, fun _ => rfl⟩, by simpa using b2⟩
    have z := List.all_eq_true.mp b1 k (Array.mem_toList_iff.mpr hk)
    split at z
    · rename_i n2 t e2
      exact ⟨n2, t, e2⟩
    · cases z
  · cases b
/-! ### names of attributes -/
/-- a name by its number; those that are not listed: one sign -/
def nmOf (t : List (Nat × Str)) (i : Nat) : Str := (t.lookup i).getD ⟨#[i]⟩
def nmB (t : List (Nat × Str)) : Bool := t.all fun p => decide (2 ≤ p.2.cps.size) && t.all fun q => decide (p.2 = q.2 → p.1 = q.1)
theorem lookup_memN {i : Nat} {x : Str} : ∀ {t : List (Nat × Str)}, t.lookup i = some x → (i, x) ∈ t
  | [], h => by cases h
  | (j, y) :: r, h => by
    rw [List.lookup_cons] at h
    cases q : i == j with
    | true => rw [q] at h; cases h; rw [eq_of_beq q]; exact List.mem_cons_self
    | false => rw [q] at h; exact List.mem_cons_of_mem _ (lookup_memN h)
theorem nmOf_inj {t : List (Nat × Str)} (b : nmB t = true) (f g : Nat) (e : nmOf t f = nmOf t g) : f = g := by
  unfold nmOf at e
  have two : ∀ {i x}, t.lookup i = some x → 2 ≤ x.cps.size := fun {i x} h => by
    have := List.all_eq_true.mp b _ (lookup_memN h)
    exact of_decide_eq_true (ba this).1
  cases p : t.lookup f with
  | none => cases q : t.lookup g with
    | none =>
      rw [p, q] at e
      have e : (⟨#[f]⟩ : Str) = ⟨#[g]⟩ := e
      injection e with e
      simpa using e
    | some y =>
      rw [p, q] at e
      have e : (⟨#[f]⟩ : Str) = y := e
      have := two q
      rw [← e] at this
      simp at this
  | some x => cases q : t.lookup g with
    | none =>
      rw [p, q] at e
      have e : x = (⟨#[g]⟩ : Str) := e
      have := two p
      rw [e] at this
      simp at this
    | some y =>
      rw [p, q] at e
      have e : x = y := e
      have h1 := (ba (List.all_eq_true.mp b _ (lookup_memN p))).2
      have h2 := List.all_eq_true.mp h1 _ (lookup_memN q)
      exact of_decide_eq_true h2 e
/-! ### classes of exceptions: number, name, those above (itself too), attribute -/
structure XD where
  id : Nat
  name : Str
  sup : List Nat
  attr : Option Nat
def xcB (K : PySem.W.Frag) (D : Addr) : Bool := (eqO (PySem.W.findIn K (.ref D) "__getattribute__") (some (some (.builtin "BaseException.__getattribute__"))) && eqO (PySem.W.findIn K (.ref D) "__getattr__") (some none)) &&
  ((decide (PySem.W.subIn K (.ref D) (.type "BaseException") = some true) && PySem.W.hasDictIn K D) && (eqO (PySem.W.findIn K (.ref D) "__class__") (some (some (.builtin "object.__class__"))) &&
  ((eqO (PySem.W.specialIn K (.builtin "object.__class__") "__get__") (some (some (.builtin "getset_descriptor.__get__"))) && decide (PySem.W.takesIn K (.builtin "object.__class__") = some true)) && decide (PySem.W.mroIn K D (.type "object") = some true))))
theorem xcB_ok {K : PySem.W.Frag} {D : Addr} (h : xcB K D = true) : ExcC K D := by
  obtain ⟨a, h⟩ := ba h
  obtain ⟨a1, a2⟩ := ba a
  obtain ⟨b, h⟩ := ba h
  obtain ⟨b1, b2⟩ := ba b
  obtain ⟨c1, h⟩ := ba h
  obtain ⟨d, e⟩ := ba h
  obtain ⟨d1, d2⟩ := ba d
  exact ⟨eqO_ok a1, eqO_ok a2, of_decide_eq_true b1, b2, eqO_ok c1, eqO_ok d1, of_decide_eq_true d2, of_decide_eq_true e⟩
def pairB (K : PySem.W.Frag) (x y : XD) : Bool := decide (PySem.W.kitOne K (.ref (ga K x.name)) (.ref (ga K y.name)) = some (decide (y.id ∈ x.sup))) && decide (PySem.W.exmOne K (.ref (ga K x.name)) (.ref (ga K y.name)) = some (decide (y.id ∈ x.sup)))
def xdB (K : PySem.W.Frag) (nm : Nat → Str) (l : List XD) : Bool := l.all fun x => xcB K (ga K x.name) && (decide (PySem.W.kitOne K (.ref (ga K x.name)) (.type "ValueError") = some true) &&
  ((l.all fun y => pairB K x y) && (match x.attr with
    | none => true
    | some n => eqO (PySem.W.findIn K (.ref (ga K x.name)) (nm n)) (some none))))
def xdF (l : List XD) (c : Nat) : Option XD := l.find? fun x => x.id == c
theorem xdF_some {l : List XD} {c : Nat} {x : XD} (h : xdF l c = some x) : x ∈ l ∧ x.id = c := ⟨List.mem_of_find?_eq_some h, by have := List.find?_some h; exact eq_of_beq this⟩
def xsOf (l : List XD) (c : Nat) : Option (List Nat) := (xdF l c).map (·.sup)
def xfOf (l : List XD) (c : Nat) : Option Nat := (xdF l c).bind (·.attr)
def xnOf (nm : Nat → Str) (l : List XD) (c : Nat) : Str := match xfOf l c with
  | some n => nm n
  | none => ""
/-- the addresses of the classes, by their numbers -/
def caOf (K : PySem.W.Frag) (cl : List (Nat × Str)) (c : Nat) : Addr := match cl.lookup c with
  | some x => ga K x
  | none => 0
theorem xf_of {fx : Fx} {tb : Tb} {C : Cfg} {K : PySem.W.Frag} {cl : List (Nat × Str)} {l : List XD} (hK : fx.K = K) (hca : fx.ca = caOf K cl) (hxn : fx.xn = xnOf fx.nm l) (hx : C.xs = xsOf l) (hf : C.xf = xfOf l) (hB : xdB K fx.nm l = true)
    (hcl : ∀ x ∈ l, cl.lookup x.id = some x.name) (hi : ∀ c, tb.isX c = true → (xdF l c).isSome = true) : XF fx tb C := by
  have ca : ∀ {c x}, xdF l c = some x → fx.ca c = ga K x.name := fun {c x} h => by
    obtain ⟨h1, h2⟩ := xdF_some h
    have := hcl x h1
    rw [h2] at this
    rw [hca]
    show (match cl.lookup c with | some x => ga K x | none => 0) = _
    rw [this]
  have xs : ∀ {k s}, C.xs k = some s → ∃ x, xdF l k = some x ∧ x.sup = s := fun {k s} h => by
    rw [hx] at h
    exact Option.map_eq_some_iff.mp h
  have at_ : ∀ {c x}, xdF l c = some x → _ := fun {c x} h => List.all_eq_true.mp hB x (xdF_some h).1
  refine ⟨fun k s e => ?_, fun k s c e hc => ?_, fun k s e => ?_, fun _ _ _ _ => trivial, fun k s c e hc => ?_, fun k n e => ?_⟩
  · obtain ⟨x, e1, e2⟩ := xs e
    rw [hK, ca e1]
    exact xcB_ok (ba (at_ e1)).1
  · obtain ⟨x, e1, e2⟩ := xs e
    obtain ⟨y, e3⟩ := Option.isSome_iff_exists.mp (hi c hc)
    rw [hK, ca e1, ca e3]
    have z := (ba (List.all_eq_true.mp (ba (ba (ba (at_ e1)).2).2).1 y (xdF_some e3).1)).1
    rw [(xdF_some e3).2, e2] at z
    exact of_decide_eq_true z
  · obtain ⟨x, e1, e2⟩ := xs e
    rw [hK, ca e1]
    exact of_decide_eq_true (ba (ba (at_ e1)).2).1
  · obtain ⟨x, e1, e2⟩ := xs e
    obtain ⟨y, e3⟩ := Option.isSome_iff_exists.mp (hi c hc)
    rw [hK, ca e1, ca e3]
    have z := (ba (List.all_eq_true.mp (ba (ba (ba (at_ e1)).2).2).1 y (xdF_some e3).1)).2
    rw [(xdF_some e3).2, e2] at z
    exact of_decide_eq_true z
  · rw [hf] at e
    obtain ⟨x, e1, e2⟩ := Option.bind_eq_some_iff.mp (show (xdF l k).bind (·.attr) = some n from e)
    refine ⟨?_, ?_, ?_⟩
    · rw [hxn]
      show (match xfOf l k with | some n => fx.nm n | none => "") = _
      rw [e]
    · rw [hK, ca e1]
      exact xcB_ok (ba (at_ e1)).1
    · rw [hK, ca e1]
      have z := (ba (ba (ba (at_ e1)).2).2).2
      rw [e2] at z
      exact ⟨eqO_ok z⟩
end PL
end
section
set_option Elab.async false
set_option linter.all false
set_option maxRecDepth 100000
set_option maxHeartbeats 2000000
/-! PL32: a law's program, put together from data. -/
namespace PL
open PySem PySem.Spec PyProof.Rows L2 LamX He
/-! ### tables of code objects -/
theorem tabs_st {T : List (Addr × Str)} : ∀ (H : Hp) (a : Addr) (o : HO), Tabs T H → (∀ u, H a = some u → noT u = true) → noT o = true → Tabs T (upd H a o) := fun H a o t no _ p hp => by
  obtain ⟨ps, e1, e2, e3⟩ := t p hp
  have n1 : p.1 ≠ a := fun z => by
    have := no _ (z ▸ e1)
    cases this
  refine ⟨ps, by rw [upd_ne n1]; exact e1, e2, fun pos cv h => ?_⟩
  obtain ⟨c, e4, e5⟩ := e3 pos cv h
  have n2 : c ≠ a := fun z => by
    have := no _ (z ▸ e5)
    cases this
  exact ⟨c, e4, by rw [upd_ne n2]; exact e5⟩
/-! ### data -/
inductive GV where
  | int (i : Int) | str (s : List Nat)
def GV.d : GV → D
  | .int i => .int i
  | .str s => .str s
def GV.fa (x : Str) : GV → Fa
  | .int i => .int x i
  | .str s => .str x (st s)
def tbOf (fn lm : List (Nat × Str)) (df : List (Nat × Nat)) (cl : List (Nat × Str)) (r1 : List Nat) (nm : List (Nat × Str)) (gl : List (Nat × Str × GV)) (bl : List Str) (xl : List XD) : Tb :=
  { fn := fun f => fn.lookup f, df := fun f j => j == 0 || df.contains (f, j), cl := fun c => cl.lookup c, r1 := fun c => r1.contains c, r0 := fun _ => false, nm := nmOf nm, fd := fun _ => false, gl := fun g => (gl.lookup g).map (·.1), blt := bl, isC := fun _ => false, isX := fun c => (xdF xl c).isSome, lm := fun f => lm.lookup f, lv := true, hot := false }
def pgOf (df : List (Nat × Df)) (dfl : List ((Nat × Nat) × List D)) (gl : List (Nat × Str × GV)) (ra : List (Nat × (Nat × List St))) (xl : List XD) : Pg :=
  { df := fun f => df.lookup f, dfl := fun f j => (dfl.lookup (f, j)).getD [], glo := fun g => (gl.lookup g).map fun p => p.2.d, sup := fun _ => none, ra := fun f => ra.lookup f, xf := xfOf xl, xs := xsOf xl }
def fxOf (K : PySem.W.Frag) (cl nm : List (Nat × Str)) (xl : List XD) (T : List (Addr × Str)) : Fx :=
  { K := K, ca := caOf K cl, nm := nmOf nm, xn := xnOf (nmOf nm) xl, P := Tabs T, st := tabs_st, sa := none, sx := none }
/-- what is asked of the written part, besides the defs -/
def allB (cl nm : List (Nat × Str)) (gl : List (Nat × Str × GV)) (bl : List Str) (xl : List XD) (K : PySem.W.Frag) : Bool := (nodB K && xdB K (nmOf nm) xl) &&
  ((eqO (PySem.W.specialIn K (.builtin "object.__class__") "__get__") (some (some (.builtin "getset_descriptor.__get__"))) && decide (PySem.W.takesIn K (.builtin "object.__class__") = some true)) &&
  ((cl.all fun p => (Fa.glo p.2).ok K) && ((gl.all fun p => (p.2.2.fa p.2.1).ok K) && bl.all fun x => (Fa.free x).ok K)))
theorem lookup_pair {α : Type} {i : Nat} {y : α} : ∀ {t : List (Nat × α)}, t.lookup i = some y → (i, y) ∈ t
  | [], h => by cases h
  | (j, z) :: r, h => by
    rw [List.lookup_cons] at h
    cases q : i == j with
    | true => rw [q] at h; cases h; rw [eq_of_beq q]; exact List.mem_cons_self
    | false => rw [q] at h; exact List.mem_cons_of_mem _ (lookup_pair h)
section
variable {P : Program} {w0 : World} {K : PySem.W.Frag} {mg : Str → Option Value} {base : Heap} {T : List (Addr × Str)}
variable {fn lm : List (Nat × Str)} {df : List (Nat × Nat)} {cl : List (Nat × Str)} {r1 : List Nat} {nm : List (Nat × Str)} {gl : List (Nat × Str × GV)} {bl : List Str} {xl : List XD} {dfs : List (Nat × Df)} {dfl : List ((Nat × Nat) × List D)} {ra : List (Nat × (Nat × List St))}
theorem stF_of (X : K.In base) (G : base.Ns mainGlobals mg) (h : allB cl nm gl bl xl K = true) (hn : nmB nm = true) (hx : (xl.all fun x => decide (cl.lookup x.id = some x.name)) = true)
    (rz : ∀ c x, cl.lookup c = some x → r1.contains c = true → RzF (fxOf K cl nm xl T) K mg x c)
    (hra : ∀ f x, lm.lookup f = some x → ∀ c, RaF K mg (tbOf fn lm df cl r1 nm gl bl xl) (mkC (pgOf dfs dfl gl ra xl) c) f x) :
    StF P w0 K mg base (fxOf K cl nm xl T) (tbOf fn lm df cl r1 nm gl bl xl) (pgOf dfs dfl gl ra xl) T := by
  obtain ⟨h1, h2⟩ := ba h
  obtain ⟨h1, h3⟩ := ba h1
  obtain ⟨h4, h5⟩ := ba h2
  obtain ⟨h4, h6⟩ := ba h4
  obtain ⟨h7, h8⟩ := ba h5
  obtain ⟨h8, h9⟩ := ba h8
  have cls : ∀ c x, cl.lookup c = some x → mg x = some (.ref (caOf K cl c)) := fun c x e => by
    have z := glo_ok X G (List.all_eq_true.mp h7 _ (lookup_pair e))
    show mg x = some (.ref (match cl.lookup c with | some x => ga K x | none => 0))
    rw [e]
    exact z
  refine { hK := rfl, sa := rfl, sx := rfl, hot := rfl, free := fun x hx => free_ok X G (List.all_eq_true.mp h9 x hx), glo := fun g x e => ?_, cf := ?_, nm := rfl, inj := nmOf_inj hn, fdf := fun n e => (by cases e), cls := cls, isC := fun c e => (by cases e), rz := rz, rz0 := fun c x _ e => (by cases e), nod := nodB_ok h1 X, hT := fun _ => Iff.rfl, xf := ?_, ra := hra }
  · obtain ⟨⟨y, v⟩, e1, e2⟩ := Option.map_eq_some_iff.mp (show (gl.lookup g).map (·.1) = some x from e)
    have e2 : y = x := e2
    subst e2
    have z := List.all_eq_true.mp h8 _ (lookup_pair e1)
    have e3 : (gl.lookup g).map (fun p => p.2.d) = some v.d := by rw [e1]; rfl
    cases v with
    | int i =>
      obtain ⟨t, e4⟩ := int_ok X G (show (Fa.int y i).ok K = true from z)
      exact ⟨.int i, .int i, _, e3, e4, ⟨t, rfl⟩, fun _ => rfl⟩
    | str s =>
      obtain ⟨t, e4⟩ := str_ok X G (show (Fa.str y (st s)).ok K = true from z)
      exact ⟨.str s, .str (st s), _, e3, e4, ⟨t, rfl⟩, fun _ => rfl⟩
  · exact { cls := fun c l e => (by cases e), ha := fun c l e => (by cases e), hn := eqO_ok h4, tk := of_decide_eq_true h6, mro := fun c l e => (by cases e), kcc := fun c l d e => (by cases e), ktc := fun _ d _ e => (by cases e), kct := fun c l _ e => (by cases e) }
  · exact xf_of (K := K) (cl := cl) (l := xl) rfl rfl rfl rfl rfl h3 (fun x hx2 => of_decide_eq_true (List.all_eq_true.mp hx x hx2)) fun c e => e
/-- a def, from the head's facts -/
theorem prF_of {fx : Fx} {tb : Tb} {p : Pg} {d : DefD} {f : Nat} {N ps : List Str} {ir : List St} {b : Bool} {fd : FuncData} (F : FunD K d.name d.qual d.params d.body d.scope (d.dvs K) (d.kws K) (fAd K d.at_) fd) (hm : mg d.name = some (.ref (fAd K d.at_)))
    (sc : FnScope N ps d.scope) (hd : p.df f = some ⟨ps.length, N.length, ir⟩) (hc : chSs (if b then tb else tb.nol) N d.scope ir d.body = true) (hl : b = true → LaF base mg T d.qual fd.code)
    (hb : ∀ j, tb.df f j = true → ∃ ds zs, Binds K fd ps ds ∧ Vals zs ds ∧ ∀ w, Rels fx w (p.dfl f j) zs) : PrF P w0 K mg base fx tb p T f d.name :=
  ⟨d.qual, d.params, d.body, d.scope, d.dvs K, d.kws K, fAd K d.at_, fd, N, ps, ir, b, F, hm, sc, hd, hc, hl, hb⟩
end
/-- a def with lambdas: its code, its table -/
theorem laF_of {K : PySem.W.Frag} {mg : Str → Option Value} {base : Heap} {T : List (Addr × Str)} {p : Defn} {x qual : Str} {params : Arguments} {body : List Stmt} {scope : Scope} {dvs : List V} {kws : List (Str × V)} {fd : FuncData}
    (F : FunD K x qual params body scope dvs kws (fAd K p) fd) (TB : TabB base mg (cT K p).1 (cT K p).2) (hm : ((cT K p).2, qual ++ ".<locals>." ++ "<lambda>") ∈ T) (hu : ∀ q ∈ T, q.1 = (cT K p).2 → q.2 = qual ++ ".<locals>." ++ "<lambda>") : LaF base mg T qual fd.code := by
  obtain ⟨oc, od, dV, kV, doc, pm, an, cdv, ct, osl, rfl, lk, hcd, _⟩ := F.ex
  obtain ⟨c, rfl⟩ := codeIn_ref hcd
  have e : codeOf K p = c := codeOf_eq lk rfl
  refine ⟨c, (cT K p).2, rfl, ?_, hm, hu⟩
  have e2 : (cT K p).1 = c := e
  rw [e2] at TB
  exact TB
/-- a raiser -/
theorem raF_of {K : PySem.W.Frag} {mg : Str → Option Value} {tb : Tb} {p : Pg} {c : Nat → List D → M D} {f : Nat} {x a : Str} {params : Arguments} {body : List Stmt} {scope : Scope} {g : Addr} {fd : FuncData} {Ng : List Str} {ir : List St}
    (F : FunD K x x params body scope [] [] g fd) (hm : mg x = some (.ref g)) (hb : L2.Binds K fd [a] []) (sc : FnScope Ng [a] scope) (h0 : Ng[0]? = some a) (hv : Vis scope a) (h1 : (a == ("__debug__" : Str)) = false) (h2 : (a == ("__classdict__" : Str)) = false)
    (hr : raB tb Ng scope a ir body = true) (hp : p.ra f = some (Ng.length, ir)) : RaF K mg tb (mkC p c) f x := by
  obtain ⟨oc, od, dV, kV, doc, pm, an, cdv, ct, osl, rfl, lk, hcd, _⟩ := F.ex
  refine ⟨g, params, body, scope, dV, kV, doc, pm, cdv, ct, oc, an, od, osl, Ng, a, ir, hm, F.kp, lk, hcd, hb, sc, h0, hv, h1, h2, hr, ?_⟩
  show (fun mm => match p.ra f with | some (m, ir) => noX (raM (mkC0 p c) m ir mm) | none => M.fail) = _
  rw [hp]
  rfl
/-! ### a raised class with one attribute -/
def oexB (K : PySem.W.Frag) (C fI : Addr) : Bool := (match K.lookup C with
  | some ⟨.type t, _, .cls cd, sl⟩ => decide (t = "type") && (match cd.mro, sl.toList with
    | .ref C' :: bm, [_, _, _, _, some (.builtin n), _] => (C' == C && n == "ValueError.__new__") && ((!cd.hasDel && cd.hasDict) && PySem.HandSPX.refsVE bm)
    | _, _ => false)
  | _ => false) && ((eqO (PySem.W.findIn K (.ref C) "__setattr__") (some (some (.builtin "object.__setattr__"))) && eqO (PySem.W.findIn K (.ref C) "__init__") (some (some (.ref fI)))) &&
  ((PySem.W.keepIn K (.ref C) && decide (PySem.W.subIn K (.ref C) (.type "BaseException") = some true)) && (decide (PySem.W.typeIn K (.ref C) = some (.type "type")) && decide (PySem.W.typeIn K (.ref fI) = some (.type "function")))))
structure OexF (K : PySem.W.Frag) (C fI : Addr) : Prop where
  cls : ∃ nm q N bs bm sn sub ab col dd k0 k1 k2 k3 k5, K.lookup C = some (excClassObj nm q C N bs bm true sn sub ab col dd k0 k1 k2 k3 k5 "ValueError.__new__") ∧ PySem.HandSPX.refsVE bm = true
  sa : PySem.W.findIn K (.ref C) "__setattr__" = some (some (.builtin "object.__setattr__"))
  iC : PySem.W.findIn K (.ref C) "__init__" = some (some (.ref fI))
  kC : PySem.W.keepIn K (.ref C) = true
  exC : PySem.W.subIn K (.ref C) (.type "BaseException") = some true
  tyC : PySem.W.typeIn K (.ref C) = some (.type "type")
  tC : PySem.W.typeIn K (.ref fI) = some (.type "function")
theorem oexB_ok {K : PySem.W.Frag} {C fI : Addr} (h : oexB K C fI = true) : OexF K C fI := by
  obtain ⟨a, h⟩ := ba h
  obtain ⟨b, h⟩ := ba h
  obtain ⟨b1, b2⟩ := ba b
  obtain ⟨d, e⟩ := ba h
  obtain ⟨d1, d2⟩ := ba d
  obtain ⟨e1, e2⟩ := ba e
  refine ⟨?_, eqO_ok b1, eqO_ok b2, d1, of_decide_eq_true d2, of_decide_eq_true e1, of_decide_eq_true e2⟩
  cases q : K.lookup C with
  | none => rw [q] at a; cases a
  | some o =>
    rw [q] at a
    obtain ⟨oc, od, dt, sl⟩ := o
    cases oc with
    | type t =>
      cases dt with
      | cls cd =>
        obtain ⟨a0, z⟩ := ba a
        clear a
        have e0 : t = "type" := of_decide_eq_true a0
        clear a0
        subst e0
        obtain ⟨nm, bs, mro, N, q2, hasDict, sn, sub, ab, col, hasDel⟩ := cd
        obtain ⟨sl⟩ := sl
        dsimp only at z
        split at z
        · skip
          obtain ⟨a1, a2⟩ := ba z
          obtain ⟨a3, a4⟩ := ba a1
          obtain ⟨a5, a6⟩ := ba a2
          obtain ⟨a7, a8⟩ := ba a5
          have e5 := eq_of_beq a3
          have e6 := eq_of_beq a4
          subst e5
          subst e6
          have a8 : hasDict = true := a8
          have a7 : hasDel = false := by simpa using a7
          subst a8 a7
          exact ⟨_, _, _, _, _, _, _, _, _, _, _, _, _, _, _, rfl, a6⟩
        · cases z
      | _ => cases a
    | _ => cases dt <;> cases a
/-! ### the law -/
/-- the script in the heap, nothing else -/
def F0 (H : Hp) (a : Addr) : Hp := fun b => if b = a then (match H a with
  | some (.lst xs) => some (.lst xs)
  | some (.frz o (.lst xs)) => some (.frz o (.lst xs))
  | _ => none) else none
def h0 : Hs := ⟨0, fun _ => none⟩
theorem F0_some {H : Hp} {a b : Addr} {o : HO} (e : F0 H a b = some o) : H b = some o ∧ noT o = true := by
  unfold F0 at e
  by_cases hb : b = a
  · subst hb
    rw [if_pos rfl] at e
    split at e
    · rename_i xs q; cases e; exact ⟨q, rfl⟩
    · rename_i u xs q; cases e; exact ⟨q, rfl⟩
    · cases e
  · rw [if_neg hb] at e; cases e
theorem sq_F0 {K : PySem.W.Frag} {H : Hp} {a : Addr} {xs : List V} (h : SqL K H a xs) : SqL K (F0 H a) a xs := by
  rcases h with (h | ⟨o, h⟩) | h
  · refine .inl (.inl ?_)
    unfold F0
    rw [if_pos rfl, h]
  · refine .inl (.inr ⟨o, ?_⟩)
    unfold F0
    rw [if_pos rfl, h]
  · exact .inr h
theorem law_sp {K : PySem.W.Frag} {fx : Fx} {m : List D → M D} {H : Hp} {a : Addr} {ns : List Int} (hK : fx.K = K) (hP : fx.P H) (hS : SqL K H a (ns.map V.int)) (o : Out (m [.scr ns] h0) (fun d _ => d = .bl true) fun _ _ => False) :
    spF fx m 1 [.ref a] H (fun v _ => v = .bl true) (fun _ _ _ => False) := by
  have hr : HR fx ⟨F0 H a, fun _ => none⟩ (fun _ => none) h0 H := { sF := fun b o e => (F0_some e).1, sR := fun b o e => (by cases e), dis := fun b o e => rfl, live := fun n c e => (by cases e), inj := fun n m b e => (by cases e), rng := fun n b e => (by cases e), top := fun n _ => ⟨rfl, rfl⟩, ps := hP, nF := fun b o e => (F0_some e).2, nR := fun b o e => (by cases e) }
  refine ⟨rfl, _, _, h0, [.scr ns], hr, ⟨_, _, rfl, ⟨a, rfl, ?_⟩, rfl⟩, o.imp (fun d h1 e w' v H' le hr r => ?_) fun _ _ z => z.elim⟩
  · rw [hK]; exact sq_F0 hS
  · subst e
    exact r
end PL
end
section
set_option Elab.async false
set_option linter.all false
set_option maxRecDepth 100000
set_option maxHeartbeats 0
namespace PL.k71
open PySem PySem.Spec PyProof.Rows L2 PL
def fnT : List (Nat × Str) := [(528, ("whole_number" : Str)), (369, ("common_divisor" : Str)), (455, ("lowest" : Str)), (405, ("fraction" : Str)), (433, ("is_fraction" : Str)), (350, ("check_pair" : Str)), (522, ("times" : Str)), (407, ("fraction_word" : Str)), (385, ("digits_fit" : Str)), (429, ("integer_fits" : Str)), (406, ("fraction_of" : Str)), (199, ("_law_mixed" : Str)), (290, ("_law_store" : Str)), (294, ("_law_take" : Str)), (224, ("_law_pick" : Str)), (159, ("_law_gcd" : Str)), (191, ("_law_lowest" : Str)), (301, ("_law_times" : Str)), (170, ("_law_is_whole" : Str)), (260, ("_law_same" : Str)), (148, ("_law_fits" : Str)), (315, ("_law_whole" : Str)), (161, ("_law_great" : Str)), (153, ("_law_frac" : Str)), (154, ("_law_frac_wide" : Str)), (89, ("_law_bad_frac" : Str)), (155, ("_law_frac_word" : Str)), (190, ("_law_loose_word" : Str)), (146, ("_law_figures" : Str)), (114, ("_law_changed" : Str)), (321, ("_law_word_drawn" : Str)), (165, ("_law_integer_due" : Str)), (156, ("_law_fraction_due" : Str)), (331, ("_law_written" : Str)), (251, ("_law_refuses" : Str)), (445, ("law" : Str))]
def lmT : List (Nat × Str) := [(248, ("_law_refusal" : Str))]
def clT : List (Nat × Str) := [(59, ("SkyError" : Str)), (0, ("BadValue" : Str)), (42, ("Mismatch" : Str)), (62, ("Still" : Str)), (9, ("Endless" : Str)), (64, ("TooMany" : Str)), (45, ("NoName" : Str)), (63, ("Taken" : Str)), (20, ("Locked" : Str)), (21, ("Looped" : Str)), (1, ("Broken" : Str)), (53, ("ReadError" : Str))]
def r1L : List Nat := [0]
def nmT : List (Nat × Str) := [(0, ("what" : Str)), (1, ("limit" : Str)), (2, ("name" : Str)), (3, ("loop" : Str)), (4, ("line" : Str)), (5, ("column" : Str)), (6, ("reason" : Str))]
def glD : List (Nat × Str × GV) := [(5, ("DIGITS" : Str), .str [48, 49, 50, 51, 52, 53, 54, 55, 56, 57]), (27, ("MOST_DIGITS" : Str), .int 40)]
def blT : List Str := ["len", "abs", "int", "str", "sum", "all", "any", "min", "max", "tuple", "bool", "divmod", "isinstance", "range", "list", "dict", "ValueError"]
def xl : List XD := [⟨59, "SkyError", [59], none⟩, ⟨0, "BadValue", [0, 59], some 0⟩, ⟨42, "Mismatch", [42, 59], none⟩, ⟨62, "Still", [62, 59], none⟩, ⟨9, "Endless", [9, 59], none⟩, ⟨64, "TooMany", [64, 59], some 1⟩, ⟨45, "NoName", [45, 59], some 2⟩, ⟨63, "Taken", [63, 59], some 2⟩, ⟨20, "Locked", [20, 59], some 3⟩, ⟨21, "Looped", [21, 59], none⟩, ⟨1, "Broken", [1, 59], none⟩, ⟨53, "ReadError", [53, 59], none⟩]
def dfJ : List (Nat × Nat) := [(405, 1)]
def dflT : List ((Nat × Nat) × List D) := [((405, 1), [(.int 1)])]
def tb : Tb := tbOf fnT lmT dfJ clT r1L nmT glD blT xl
/-- whole_number -/
def ir528 : List PL.St := [.ret (.and_ (.isi [.int] true (.v 0)) (.not_ (.isi [.bool] true (.v 0))))]
def N528 : List Str := ["value"]
/-- common_divisor -/
def ir369 : List PL.St := [.set 0 (.b1 .abs (.v 0)),
  .set 1 (.b1 .abs (.v 1)),
  .whl (.cmp .NotEq (.v 1) (.c (.int 0))) [.par 0 1 (.v 1) (.bin .Mod (.v 0) (.v 1))],
  .ret (.v 0)]
def N369 : List Str := ["left", "right"]
/-- lowest -/
def ir455 : List PL.St := [.set 2 (.call 369 0 [(.v 0), (.v 1)]),
  .iff (.cmp .Lt (.v 1) (.c (.int 0))) [.set 2 (.neg (.v 2))] [],
  .ret (.tup [(.bin .FloorDiv (.v 0) (.v 2)), (.bin .FloorDiv (.v 1) (.v 2))])]
def N455 : List Str := ["numerator", "denominator", "divisor"]
/-- fraction -/
def ir405 : List PL.St := [.iff (.not_ (.call 528 0 [(.v 0)])) [.rais 0 [(.c (.str [110, 117, 109, 101, 114, 97, 116, 111, 114]))]] [],
  .iff (.or_ (.not_ (.call 528 0 [(.v 1)])) (.cmp .Eq (.v 1) (.c (.int 0)))) [.rais 0 [(.c (.str [100, 101, 110, 111, 109, 105, 110, 97, 116, 111, 114]))]] [],
  .ret (.call 455 0 [(.v 0), (.v 1)])]
def N405 : List Str := ["numerator", "denominator"]
/-- is_fraction -/
def ir433 : List PL.St := [.iff (.or_ (.not_ (.isi [.tuple] true (.v 0))) (.cmp .NotEq (.b1 .len (.v 0)) (.c (.int 2)))) [.ret (.c (.bl false))] [],
  .setT (.t [(.n 1), (.n 2)]) (.v 0),
  .iff (.or_ (.not_ (.call 528 0 [(.v 1)])) (.not_ (.call 528 0 [(.v 2)]))) [.ret (.c (.bl false))] [],
  .ret (.and_ (.cmp .GtE (.v 2) (.c (.int 1))) (.cmp .Eq (.call 369 0 [(.v 1), (.v 2)]) (.c (.int 1))))]
def N433 : List Str := ["value", "numerator", "denominator"]
/-- check_pair -/
def ir350 : List PL.St := [.iff (.not_ (.call 433 0 [(.v 0)])) [.rais 0 [(.c (.str [108, 101, 102, 116]))]] [],
  .iff (.not_ (.call 433 0 [(.v 1)])) [.rais 0 [(.c (.str [114, 105, 103, 104, 116]))]] []]
def N350 : List Str := ["left", "right"]
/-- times -/
def ir522 : List PL.St := [.expr (.call 350 0 [(.v 0), (.v 1)]),
  .ret (.call 455 0 [(.bin .Mult (.ix (.v 0) (.c (.int 0))) (.ix (.v 1) (.c (.int 0)))), (.bin .Mult (.ix (.v 0) (.c (.int 1))) (.ix (.v 1) (.c (.int 1))))])]
def N522 : List Str := ["left", "right"]
/-- fraction_word -/
def ir407 : List PL.St := [.iff (.not_ (.call 433 0 [(.v 0)])) [.rais 0 [(.c (.str [118, 97, 108, 117, 101]))]] [],
  .iff (.cmp .Eq (.ix (.v 0) (.c (.int 1))) (.c (.int 1))) [.ret (.b1 .str (.ix (.v 0) (.c (.int 0))))] [],
  .ret (.js [(.fm (.ix (.v 0) (.c (.int 0)))), (.c (.str [47])), (.fm (.ix (.v 0) (.c (.int 1))))])]
def N407 : List Str := ["value"]
/-- digits_fit -/
def ir385 : List PL.St := [.iff (.or_ (.cmp .Lt (.b1 .len (.v 0)) (.c (.int 1))) (.or_ (.cmp .Gt (.b1 .len (.v 0)) (.g 27)) (.cmp .Eq (.ix (.v 0) (.c (.int 0))) (.c (.str [48]))))) [.ret (.c (.bl false))] [],
  .ret (.b1 .all (.fz (.Lc [1] (.n 1) (.Il (.v 0)) (.c (.bl true)) (.cmp .In (.v 1) (.g 5)))))]
def N385 : List Str := ["word", "char"]
/-- integer_fits -/
def ir429 : List PL.St := [.iff (.cmp .Eq (.v 0) (.c (.str [48]))) [.ret (.c (.bl true))] [],
  .iff (.sm .startswith (.v 0) [(.c (.str [45]))]) [.ret (.call 385 0 [(.sl (.v 0) (.c (.int 1)) .nul)])] [],
  .ret (.call 385 0 [(.v 0)])]
def N429 : List Str := ["word"]
/-- fraction_of -/
def ir406 : List PL.St := [.iff (.not_ (.isi [.str] true (.v 0))) [.rais 0 [(.c (.str [119, 111, 114, 100]))]] [],
  .setT (.t [(.n 1), (.n 2), (.n 3)]) (.sm .partition (.v 0) [(.c (.str [47]))]),
  .iff (.not_ (.call 429 0 [(.v 1)])) [.ret (.c (.non))] [],
  .iff (.cmp .Eq (.v 2) (.c (.str []))) [.ret (.call 405 1 [(.b1 .int (.v 1))])] [],
  .iff (.not_ (.call 385 0 [(.v 3)])) [.ret (.c (.non))] [],
  .ret (.call 405 0 [(.b1 .int (.v 1)), (.b1 .int (.v 3))])]
def N406 : List Str := ["word", "numerator", "slash", "denominator"]
/-- _law_mixed -/
def ir199 : List PL.St := [.set 2 (.bin .Mod (.bin .Add (.bin .Add (.bin .Mult (.bin .Mod (.b1 .int (.v 0)) (.c (.int 2147483629))) (.c (.int 48271))) (.bin .Mult (.v 1) (.c (.int 40692)))) (.c (.int 69621))) (.c (.int 2147483647))),
  .set 2 (.bin .Mod (.bin .Add (.bin .Add (.bin .Add (.bin .Mult (.v 2) (.v 2)) (.bin .Mult (.v 2) (.c (.int 16807)))) (.bin .Mult (.v 1) (.c (.int 69997)))) (.c (.int 12820163))) (.c (.int 2147483629))),
  .set 2 (.bin .Mod (.bin .Add (.bin .Add (.bin .Mult (.v 2) (.c (.int 48271))) (.bin .FloorDiv (.v 2) (.c (.int 32768)))) (.c (.int 7))) (.c (.int 2147483647))),
  .set 2 (.bin .Mod (.bin .Add (.bin .Mult (.v 2) (.v 2)) (.v 1)) (.c (.int 2147483587))),
  .ret (.bin .FloorDiv (.v 2) (.c (.int 8)))]
def N199 : List Str := ["_law_number", "_law_turn", "_law_value"]
/-- _law_store -/
def ir290 : List PL.St := [.set 1 (.bin .Add (.b1 .len (.v 0)) (.c (.int 1000003))),
  .fr (.n 2) (.Il (.v 0)) [.set 1 (.bin .Mod (.bin .Add (.bin .Add (.bin .Mult (.v 1) (.c (.int 48271))) (.bin .Mod (.b1 .int (.v 2)) (.c (.int 2147483629)))) (.c (.int 11))) (.c (.int 2147483647)))],
  .ret (.hp (.L [(.fz (.Lcp (.v 0))), (.c (.int 0)), (.c (.int 0)), (.c (.int 0)), (.v 1), (.c (.int 0)), (.c (.int 0))]))]
def N290 : List Str := ["_law_script", "_law_seed", "_law_cell"]
/-- _law_take -/
def ir294 : List PL.St := [.iff (.cmp .Lt (.v 1) (.c (.int 2))) [.ret (.c (.int 0))] [],
  .hset (.v 0) (.c (.int 3)) (.bin .Add (.ix (.v 0) (.c (.int 3))) (.c (.int 1))),
  .iff (.and_ (.cmp .Lt (.ix (.v 0) (.c (.int 2))) (.c (.int 2))) (.and_ (.cmp .Lt (.ix (.v 0) (.c (.int 5))) (.c (.int 1))) (.cmp .Lt (.ix (.v 0) (.c (.int 1))) (.b1 .len (.ix (.v 0) (.c (.int 0))))))) [.set 2 (.b1 .int (.ix (.ix (.v 0) (.c (.int 0))) (.ix (.v 0) (.c (.int 1))))),
  .hset (.v 0) (.c (.int 1)) (.bin .Add (.ix (.v 0) (.c (.int 1))) (.c (.int 1))),
  .iff (.cmp .Lt (.b1 .abs (.v 2)) (.bin .Pow (.c (.int 10)) (.c (.int 18)))) [.hset (.v 0) (.c (.int 5)) (.c (.int 2)),
  .hset (.v 0) (.c (.int 6)) (.v 2)] [.hset (.v 0) (.c (.int 2)) (.b1 .abs (.v 2))]] [],
  .iff (.cmp .Gt (.ix (.v 0) (.c (.int 2))) (.c (.int 1))) [.set 3 (.bin .Mod (.b1 .int (.ix (.v 0) (.c (.int 2)))) (.v 1)),
  .hset (.v 0) (.c (.int 2)) (.bin .FloorDiv (.ix (.v 0) (.c (.int 2))) (.v 1)),
  .ret (.v 3)] [],
  .set 4 (.ix (.v 0) (.c (.int 4))),
  .iff (.cmp .Gt (.ix (.v 0) (.c (.int 5))) (.c (.int 0))) [.hset (.v 0) (.c (.int 5)) (.bin .Sub (.ix (.v 0) (.c (.int 5))) (.c (.int 1))),
  .set 4 (.ix (.v 0) (.c (.int 6)))] [],
  .set 5 (.c (.int 0)),
  .fr (.n 6) (.Ir1 (.bin .Add (.c (.int 1)) (.bin .FloorDiv (.sm .bits (.v 1) []) (.c (.int 24))))) [.set 5 (.bin .Add (.bin .Mult (.v 5) (.c (.int 268435456))) (.call 199 0 [(.v 4), (.bin .Add (.bin .Mult (.ix (.v 0) (.c (.int 3))) (.c (.int 64))) (.v 6))]))],
  .ret (.bin .Mod (.v 5) (.v 1))]
def N294 : List Str := ["_law_store_here", "_law_many", "_law_cell", "_law_digit", "_law_number", "_law_value", "_law_k"]
/-- _law_pick -/
def ir224 : List PL.St := [.ret (.ix (.v 1) (.call 294 0 [(.v 0), (.b1 .len (.v 1))]))]
def N224 : List Str := ["_law_store_here", "_law_row"]
/-- _law_gcd -/
def ir159 : List PL.St := [.set 0 (.b1 .abs (.v 0)),
  .set 1 (.b1 .abs (.v 1)),
  .whl (.cmp .Gt (.v 1) (.c (.int 0))) [.par 0 1 (.v 1) (.bin .Mod (.b1 .int (.v 0)) (.v 1))],
  .ret (.v 0)]
def N159 : List Str := ["_law_left", "_law_right"]
/-- _law_lowest -/
def ir191 : List PL.St := [.iff (.cmp .Eq (.v 1) (.c (.int 0))) [.ret (.tup [(.c (.int 0)), (.c (.int 1))])] [],
  .iff (.cmp .Lt (.v 1) (.c (.int 0))) [.set 0 (.neg (.v 0)),
  .set 1 (.neg (.v 1))] [],
  .set 2 (.call 159 0 [(.v 0), (.v 1)]),
  .ret (.tup [(.bin .FloorDiv (.v 0) (.v 2)), (.bin .FloorDiv (.v 1) (.v 2))])]
def N191 : List Str := ["_law_top", "_law_bottom", "_law_common"]
/-- _law_times -/
def ir301 : List PL.St := [.ret (.call 191 0 [(.bin .Mult (.ix (.v 0) (.c (.int 0))) (.ix (.v 1) (.c (.int 0)))), (.bin .Mult (.ix (.v 0) (.c (.int 1))) (.ix (.v 1) (.c (.int 1))))])]
def N301 : List Str := ["_law_left", "_law_right"]
/-- _law_is_whole -/
def ir170 : List PL.St := [.ret (.and_ (.isi [.int] true (.v 0)) (.not_ (.isi [.bool] true (.v 0))))]
def N170 : List Str := ["_law_told"]
/-- _law_same -/
def ir260 : List PL.St := [.iff (.cmp .Is (.v 1) (.c (.non))) [.ret (.cmp .Is (.v 0) (.c (.non)))] [],
  .iff (.isi [.bool] true (.v 1)) [.ret (.and_ (.isi [.bool] true (.v 0)) (.cmp .Eq (.v 0) (.v 1)))] [],
  .iff (.isi [.int] true (.v 1)) [.ret (.and_ (.call 170 0 [(.v 0)]) (.cmp .Eq (.v 0) (.v 1)))] [],
  .iff (.isi [.str] true (.v 1)) [.ret (.and_ (.isi [.str] true (.v 0)) (.cmp .Eq (.v 0) (.v 1)))] [],
  .iff (.isi [.dict] true (.v 1)) [.iff (.or_ (.not_ (.isi [.dict] true (.v 0))) (.not_ (.call 260 0 [(.fz (.Lcp (.v 0))), (.fz (.Lcp (.v 1)))]))) [.ret (.c (.bl false))] [],
  .bad] [],
  .iff (.and_ (.isi [.list] true (.v 1)) (.not_ (.isi [.list] true (.v 0)))) [.ret (.c (.bl false))] [],
  .iff (.and_ (.isi [.tuple] true (.v 1)) (.not_ (.isi [.tuple] true (.v 0)))) [.ret (.c (.bl false))] [],
  .iff (.or_ (.not_ (.isi [.list, .tuple] false (.v 1))) (.cmp .NotEq (.b1 .len (.v 0)) (.b1 .len (.v 1)))) [.ret (.c (.bl false))] [],
  .fr (.n 2) (.Ir1 (.b1 .len (.v 1))) [.iff (.not_ (.call 260 0 [(.ix (.v 0) (.v 2)), (.ix (.v 1) (.v 2))])) [.ret (.c (.bl false))] []],
  .ret (.c (.bl true))]
def N260 : List Str := ["_law_told", "_law_due", "_law_k"]
/-- _law_fits -/
def ir148 : List PL.St := [.iff (.isi [.list, .tuple] false (.v 0)) [.fr (.n 1) (.Il (.v 0)) [.iff (.not_ (.call 148 0 [(.v 1)])) [.ret (.c (.bl false))] []],
  .ret (.c (.bl true))] [],
  .ret (.or_ (.not_ (.isi [.int] true (.v 0))) (.cmp .Lt (.b1 .abs (.v 0)) (.bin .Pow (.c (.int 10)) (.c (.int 40)))))]
def N148 : List Str := ["_law_thing", "_law_item"]
/-- _law_whole -/
def ir315 : List PL.St := [.set 2 (.call 294 0 [(.v 0), (.c (.int 12))]),
  .iff (.cmp .Lt (.v 2) (.c (.int 5))) [.ret (.ix (.fz (.L [(.c (.int 0)), (.b2 .min (.c (.int 1)) (.v 1)), (.neg (.b2 .min (.c (.int 1)) (.v 1))), (.v 1), (.neg (.v 1))])) (.v 2))] [],
  .ret (.bin .Sub (.call 294 0 [(.v 0), (.bin .Add (.bin .Mult (.c (.int 2)) (.v 1)) (.c (.int 1)))]) (.v 1))]
def N315 : List Str := ["_law_store_here", "_law_reach", "_law_spot"]
/-- _law_great -/
def ir161 : List PL.St := [.set 1 (.call 294 0 [(.v 0), (.c (.int 12))]),
  .iff (.cmp .Lt (.v 1) (.c (.int 4))) [.ret (.ix (.fz (.L [(.bin .Sub (.bin .Pow (.c (.int 10)) (.c (.int 40))) (.c (.int 1))), (.bin .Sub (.c (.int 1)) (.bin .Pow (.c (.int 10)) (.c (.int 40)))), (.bin .Pow (.c (.int 10)) (.c (.int 18))), (.c (.int 0))])) (.v 1))] [],
  .set 2 (.call 294 0 [(.v 0), (.bin .Pow (.c (.int 10)) (.c (.int 40)))]),
  .fr (.n 3) (.Ir1 (.call 294 0 [(.v 0), (.c (.int 40))])) [.set 2 (.bin .FloorDiv (.v 2) (.c (.int 10)))],
  .iff (.cmp .Eq (.bin .Mod (.v 1) (.c (.int 2))) (.c (.int 1))) [.ret (.neg (.v 2))] [],
  .ret (.v 2)]
def N161 : List Str := ["_law_store_here", "_law_spot", "_law_value", "_law_k"]
/-- _law_frac -/
def ir153 : List PL.St := [.set 1 (.call 294 0 [(.v 0), (.c (.int 12))]),
  .iff (.cmp .Lt (.v 1) (.c (.int 5))) [.ret (.ix (.fz (.L [(.tup [(.c (.int 0)), (.c (.int 1))]), (.tup [(.c (.int 1)), (.c (.int 1))]), (.tup [(.neg (.c (.int 1))), (.c (.int 1))]), (.tup [(.c (.int 1)), (.c (.int 2))]), (.tup [(.neg (.c (.int 1))), (.c (.int 2))])])) (.v 1))] [],
  .set 2 (.bin .Add (.c (.int 1)) (.call 294 0 [(.v 0), (.c (.int 12))])),
  .ret (.call 191 0 [(.bin .Sub (.call 294 0 [(.v 0), (.bin .Add (.bin .Mult (.c (.int 8)) (.v 2)) (.c (.int 1)))]) (.bin .Mult (.c (.int 4)) (.v 2))), (.v 2)])]
def N153 : List Str := ["_law_store_here", "_law_spot", "_law_bottom"]
/-- _law_frac_wide -/
def ir154 : List PL.St := [.set 1 (.call 294 0 [(.v 0), (.c (.int 8))]),
  .iff (.cmp .Eq (.v 1) (.c (.int 0))) [.ret (.call 191 0 [(.call 161 0 [(.v 0)]), (.b2 .max (.c (.int 1)) (.b1 .abs (.call 161 0 [(.v 0)])))])] [],
  .iff (.cmp .Eq (.v 1) (.c (.int 1))) [.ret (.call 191 0 [(.call 315 0 [(.v 0), (.bin .Pow (.c (.int 10)) (.c (.int 6)))]), (.bin .Add (.c (.int 1)) (.call 294 0 [(.v 0), (.c (.int 1000))]))])] [],
  .ret (.call 153 0 [(.v 0)])]
def N154 : List Str := ["_law_store_here", "_law_spot"]
/-- _law_bad_frac -/
def ir89 : List PL.St := [.iff (.cmp .Eq (.call 294 0 [(.v 0), (.c (.int 3))]) (.c (.int 0))) [.set 1 (.call 153 0 [(.v 0)]),
  .set 2 (.bin .Add (.c (.int 2)) (.call 294 0 [(.v 0), (.c (.int 3))])),
  .set 3 (.fz (.L [(.fz (.L [(.ix (.v 1) (.c (.int 0))), (.ix (.v 1) (.c (.int 1)))])), (.tup [(.bin .Mult (.ix (.v 1) (.c (.int 0))) (.v 2)), (.bin .Mult (.ix (.v 1) (.c (.int 1))) (.v 2))]), (.tup [(.neg (.ix (.v 1) (.c (.int 0)))), (.neg (.ix (.v 1) (.c (.int 1))))])])),
  .ret (.call 224 0 [(.v 0), (.fz (.Lcat (.v 3) (.fz (.L [(.tup [(.ix (.v 1) (.c (.int 0)))]), (.tup [(.ix (.v 1) (.c (.int 0))), (.ix (.v 1) (.c (.int 1))), (.c (.int 1))]), (.tup [(.v 1), (.v 1)]), (.tup [(.ix (.v 1) (.c (.int 0))), (.c (.int 0))])]))))])] [],
  .set 4 (.fz (.L [(.tup [(.c (.int 2)), (.c (.int 4))]), (.tup [(.c (.int 0)), (.c (.int 2))]), (.tup [(.c (.int 0)), (.c (.int 0))]), (.tup [(.c (.int 1)), (.c (.int 0))]), (.tup [(.c (.int 1)), (.neg (.c (.int 2)))]), (.tup [(.c (.int 0)), (.neg (.c (.int 1)))]), (.tup [(.c (.bl true)), (.c (.int 1))]), (.tup [(.c (.bl false)), (.c (.int 1))]), (.tup [(.c (.int 1)), (.c (.bl true))]), (.tup [(.c (.bl true)), (.c (.int 2))]), (.tup [(.c (.int 1)), (.c (.non))])])),
  .set 4 (.fz (.Lcat (.v 4) (.fz (.L [(.tup [(.c (.str [49])), (.c (.int 2))]), (.fz (.L [(.c (.int 1)), (.c (.int 2))])), (.tup []), (.tup [(.c (.int 1))]), (.tup [(.c (.int 1)), (.c (.int 2)), (.c (.int 1))]), (.fz (.L [(.tup [(.c (.int 1)), (.c (.int 2))])]))])))),
  .ret (.call 224 0 [(.v 0), (.fz (.Lcat (.v 4) (.fz (.L [(.c (.int 0)), (.c (.int 1)), (.c (.bl true)), (.c (.bl false)), (.c (.non)), (.c (.str [49, 47, 50])), (.c (.str [])), .d0]))))])]
def N89 : List Str := ["_law_store_here", "_law_value", "_law_more", "_law_bent", "_law_bad"]
/-- _law_frac_word -/
def ir155 : List PL.St := [.iff (.cmp .Eq (.ix (.v 0) (.c (.int 1))) (.c (.int 1))) [.ret (.b1 .str (.ix (.v 0) (.c (.int 0))))] [],
  .ret (.bin .Add (.bin .Add (.b1 .str (.ix (.v 0) (.c (.int 0)))) (.c (.str [47]))) (.b1 .str (.ix (.v 0) (.c (.int 1)))))]
def N155 : List Str := ["_law_value"]
/-- _law_loose_word -/
def ir190 : List PL.St := [.set 2 (.bin .Add (.c (.int 1)) (.call 294 0 [(.v 0), (.c (.int 4))])),
  .iff (.or_ (.cmp .Eq (.v 2) (.c (.int 1))) (.cmp .GtE (.b2 .max (.b1 .abs (.ix (.v 1) (.c (.int 0)))) (.ix (.v 1) (.c (.int 1)))) (.bin .Pow (.c (.int 10)) (.c (.int 39))))) [.ret (.call 155 0 [(.v 1)])] [],
  .ret (.bin .Add (.bin .Add (.b1 .str (.bin .Mult (.ix (.v 1) (.c (.int 0))) (.bin .Sub (.v 2) (.c (.int 1))))) (.c (.str [47]))) (.b1 .str (.bin .Mult (.ix (.v 1) (.c (.int 1))) (.bin .Sub (.v 2) (.c (.int 1))))))]
def N190 : List Str := ["_law_store_here", "_law_value", "_law_more"]
/-- _law_refusal -/
def ir248 : List PL.St := [.tryE 1 59 4 (some [116, 111, 108, 100]) 0 [.set 2 (.fz (.L [(.eis 1 (some 0)), (.eis 1 (some 42)), (.eis 1 (some 62)), (.eis 1 (some 9))])),
  .set 2 (.fz (.Lcat (.v 2) (.fz (.L [(.eis 1 (some 64)), (.eis 1 (some 45)), (.eis 1 (some 63)), (.eis 1 (some 20))])))),
  .set 2 (.fz (.Lcat (.v 2) (.fz (.L [(.eis 1 (some 21)), (.eis 1 (some 1)), (.eis 1 (some 53))])))),
  .iff (.or_ (.cmp .NotEq (.b1 .len (.fz (.Lc [3] (.n 3) (.v 2) (.v 3) (.v 3)))) (.c (.int 1))) (.not_ (.eis 1 none))) [.ret (.tup [(.c (.str [109, 105, 120, 101, 100])), (.c (.non))])] [],
  .iff (.eis 1 (some 0)) [.ret (.tup [(.c (.str [66, 97, 100, 86, 97, 108, 117, 101])), (.efld 1 0)])] [],
  .ret (.tup [(.c (.str [111, 116, 104, 101, 114])), (.c (.non))])]]
def N248 : List Str := ["_law_call", "e", "_law_kinds", "_law_one"]
/-- _law_figures -/
def ir146 : List PL.St := [.set 2 (.sm .join (.c (.str [])) [(.fz (.Lc [3] (.n 3) (.Ir1 (.b2 .min (.v 1) (.c (.int 45)))) (.c (.bl true)) (.ix (.c (.str [48, 49, 50, 51, 52, 53, 54, 55, 56, 57])) (.call 294 0 [(.v 0), (.c (.int 10))]))))]),
  .set 2 (.bin .Add (.bin .Add (.ix (.c (.str [49, 50, 51, 52, 53, 54, 55, 56, 57])) (.call 294 0 [(.v 0), (.c (.int 9))])) (.sl (.v 2) (.c (.int 1)) .nul)) (.bin .Mult (.c (.str [55])) (.bin .Sub (.v 1) (.c (.int 45))))),
  .iff (.cmp .Eq (.call 294 0 [(.v 0), (.c (.int 12))]) (.c (.int 0))) [.set 2 (.bin .Add (.c (.str [48])) (.sl (.v 2) (.c (.int 1)) .nul))] [],
  .ret (.bin .Add (.bin .Mult (.c (.str [45])) (.bin .FloorDiv (.call 294 0 [(.v 0), (.c (.int 6))]) (.c (.int 4)))) (.v 2))]
def N146 : List Str := ["_law_store_here", "_law_many", "_law_figures_here", "_law_k"]
/-- _law_changed -/
def ir114 : List PL.St := [.set 2 (.ix (.c (.str [32, 43, 45, 46, 47, 48, 95, 57, 101, 10, 44, 120, 88, 126])) (.call 294 0 [(.v 0), (.c (.int 14))])),
  .set 3 (.call 294 0 [(.v 0), (.bin .Add (.b1 .len (.v 1)) (.c (.int 1)))]),
  .set 4 (.call 294 0 [(.v 0), (.c (.int 4))]),
  .iff (.cmp .Eq (.v 4) (.c (.int 0))) [.ret (.bin .Add (.sl (.v 1) .nul (.v 3)) (.sl (.v 1) (.bin .Add (.v 3) (.c (.int 1))) .nul))] [],
  .iff (.cmp .Eq (.v 4) (.c (.int 1))) [.ret (.bin .Add (.bin .Add (.sl (.v 1) .nul (.v 3)) (.v 2)) (.sl (.v 1) (.bin .Add (.v 3) (.c (.int 1))) .nul))] [],
  .iff (.cmp .Eq (.v 4) (.c (.int 2))) [.ret (.bin .Add (.bin .Add (.sl (.v 1) .nul (.v 3)) (.sl (.v 1) (.v 3) (.bin .Add (.v 3) (.c (.int 1))))) (.sl (.v 1) (.v 3) .nul))] [],
  .ret (.bin .Add (.bin .Add (.sl (.v 1) .nul (.v 3)) (.v 2)) (.sl (.v 1) (.v 3) .nul))]
def N114 : List Str := ["_law_store_here", "_law_word", "_law_sign", "_law_spot", "_law_kind"]
/-- _law_word_drawn -/
def ir321 : List PL.St := [.set 1 (.call 294 0 [(.v 0), (.c (.int 9))]),
  .set 2 (.fz (.L [(.c (.int 1)), (.c (.int 2)), (.c (.int 39)), (.c (.int 40)), (.c (.int 40)), (.c (.int 41)), (.c (.int 42)), (.bin .Add (.c (.int 1)) (.call 294 0 [(.v 0), (.c (.int 40))]))])),
  .iff (.cmp .Lt (.v 1) (.c (.int 2))) [.ret (.call 190 0 [(.v 0), (.call 154 0 [(.v 0)])])] [],
  .iff (.cmp .Lt (.v 1) (.c (.int 4))) [.ret (.call 114 0 [(.v 0), (.call 190 0 [(.v 0), (.call 154 0 [(.v 0)])])])] [],
  .iff (.cmp .Eq (.v 1) (.c (.int 4))) [.ret (.sm .join (.c (.str [])) [(.fz (.Lc [3] (.n 3) (.Ir1 (.call 294 0 [(.v 0), (.c (.int 7))])) (.c (.bl true)) (.ix (.c (.str [45, 47, 48, 49, 50, 51, 52, 53, 54, 55, 56, 57, 32, 10])) (.call 294 0 [(.v 0), (.c (.int 14))]))))])] [],
  .set 4 (.call 146 0 [(.v 0), (.call 224 0 [(.v 0), (.v 2)])]),
  .iff (.cmp .Eq (.v 1) (.c (.int 5))) [.ret (.ite (.cmp .Eq (.call 294 0 [(.v 0), (.c (.int 2))]) (.c (.int 0))) (.v 4) (.call 114 0 [(.v 0), (.v 4)]))] [],
  .iff (.and_ (.cmp .Eq (.v 1) (.c (.int 6))) (.cmp .Eq (.call 294 0 [(.v 0), (.c (.int 8))]) (.c (.int 0)))) [.set 4 (.call 146 0 [(.v 0), (.call 224 0 [(.v 0), (.fz (.L [(.c (.int 4300)), (.c (.int 4301)), (.c (.int 6000))]))])]),
  .ret (.call 224 0 [(.v 0), (.fz (.L [(.v 4), (.bin .Add (.v 4) (.c (.str [47, 51]))), (.bin .Add (.c (.str [51, 47])) (.v 4))]))])] [],
  .ret (.bin .Add (.bin .Add (.v 4) (.c (.str [47]))) (.call 146 0 [(.v 0), (.call 224 0 [(.v 0), (.v 2)])]))]
def N321 : List Str := ["_law_store_here", "_law_kind", "_law_sizes", "_law_k", "_law_top"]
/-- _law_integer_due -/
def ir165 : List PL.St := [.iff (.cmp .Eq (.v 0) (.c (.str [48]))) [.ret (.c (.int 0))] [],
  .set 1 (.ite (.cmp .Eq (.sl (.v 0) .nul (.c (.int 1))) (.c (.str [45]))) (.sl (.v 0) (.c (.int 1)) .nul) (.v 0)),
  .iff (.or_ (.cmp .Lt (.b1 .len (.v 1)) (.c (.int 1))) (.or_ (.cmp .Gt (.b1 .len (.v 1)) (.c (.int 40))) (.cmp .Eq (.ix (.v 1) (.c (.int 0))) (.c (.str [48]))))) [.ret (.c (.non))] [],
  .set 2 (.c (.int 0)),
  .fr (.n 3) (.Il (.v 1)) [.iff (.cmp .NotIn (.v 3) (.c (.str [48, 49, 50, 51, 52, 53, 54, 55, 56, 57]))) [.ret (.c (.non))] [],
  .set 2 (.bin .Add (.bin .Mult (.c (.int 10)) (.v 2)) (.sm .index (.c (.str [48, 49, 50, 51, 52, 53, 54, 55, 56, 57])) [(.v 3)]))],
  .ret (.ite (.cmp .Eq (.ix (.v 0) (.c (.int 0))) (.c (.str [45]))) (.neg (.v 2)) (.v 2))]
def N165 : List Str := ["_law_word", "_law_figures_here", "_law_value", "_law_sign"]
/-- _law_fraction_due -/
def ir156 : List PL.St := [.set 1 (.fz (.Lspl (.v 0) (.c (.str [47])))),
  .set 2 (.call 165 0 [(.ix (.v 1) (.c (.int 0)))]),
  .iff (.or_ (.cmp .Gt (.b1 .len (.v 1)) (.c (.int 2))) (.cmp .Is (.v 2) (.c (.non)))) [.ret (.c (.non))] [],
  .set 3 (.c (.int 1)),
  .iff (.cmp .Eq (.b1 .len (.v 1)) (.c (.int 2))) [.set 3 (.call 165 0 [(.ix (.v 1) (.c (.int 1)))]),
  .iff (.or_ (.cmp .Is (.v 3) (.c (.non))) (.cmp .Lt (.v 3) (.c (.int 1)))) [.ret (.c (.non))] []] [],
  .ret (.call 191 0 [(.v 2), (.v 3)])]
def N156 : List Str := ["_law_word", "_law_parts", "_law_top", "_law_bottom"]
/-- _law_written -/
def ir331 : List PL.St := [.set 2 (.v 0),
  .set 3 (.v 0),
  .fr (.n 4) (.Ir1 (.v 1)) [.set 5 (.call 407 0 [(.v 2)]),
  .iff (.not_ (.call 260 0 [(.v 5), (.call 155 0 [(.v 2)])])) [.ret (.c (.bl false))] [],
  .set 6 (.ite (.call 148 0 [(.v 2)]) (.v 2) (.c (.non))),
  .iff (.not_ (.call 260 0 [(.call 406 0 [(.v 5)]), (.v 6)])) [.ret (.c (.bl false))] [],
  .iff (.cmp .Lt (.bin .Add (.v 4) (.c (.int 1))) (.v 1)) [.set 7 (.ite (.cmp .Eq (.v 4) (.c (.int 6))) (.v 3) (.v 2)),
  .set 6 (.call 301 0 [(.v 2), (.v 7)]),
  .par 3 2 (.v 2) (.call 522 0 [(.v 2), (.v 7)]),
  .iff (.not_ (.call 260 0 [(.v 2), (.v 6)])) [.ret (.c (.bl false))] []] []],
  .ret (.c (.bl true))]
def N331 : List Str := ["_law_value", "_law_many", "_law_big", "_law_half", "_law_k", "_law_word", "_law_due", "_law_by"]
/-- _law_refuses -/
def ir251 : List PL.St := [.set 1 (.call 224 0 [(.v 0), (.fz (.L [(.c (.non)), (.c (.bl true)), (.c (.int 0)), (.c (.int 5)), (.tup [(.c (.int 1)), (.c (.int 2))]), (.fz (.L [(.c (.str [49, 47, 50]))])), (.fz (.L [])), .d0, (.tup [(.c (.str [49]))]), (.neg (.c (.int 1)))]))]),
  .set 2 (.call 89 0 [(.v 0)]),
  .own 3 (.L [(.lam 248 (.call 406 0 [(.v 1)]))]),
  .oapp 3 (.lam 248 (.call 407 0 [(.v 2)])),
  .fzs 3,
  .ret (.call 260 0 [(.v 3), (.fz (.L [(.tup [(.c (.str [66, 97, 100, 86, 97, 108, 117, 101])), (.c (.str [119, 111, 114, 100]))]), (.tup [(.c (.str [66, 97, 100, 86, 97, 108, 117, 101])), (.c (.str [118, 97, 108, 117, 101]))])]))])]
def N251 : List Str := ["_law_store_here", "_law_wrong", "_law_bad", "_law_told"]
/-- law -/
def ir445 : List PL.St := [.set 1 (.call 290 0 [(.v 0)]),
  .iff (.or_ (.not_ (.call 331 0 [(.call 154 0 [(.v 1)]), (.c (.int 2))])) (.not_ (.call 331 0 [(.tup [(.call 161 0 [(.v 1)]), (.c (.int 1))]), (.c (.int 2))]))) [.ret (.c (.bl false))] [],
  .set 2 (.fz (.Lcat (.fz (.Lc [3] (.n 3) (.Ir1 (.c (.int 8))) (.c (.bl true)) (.call 321 0 [(.v 1)]))) (.fz (.L [(.c (.str []))])))),
  .own 4 (.L []),
  .fr (.n 5) (.Il (.v 2)) [.set 6 (.call 406 0 [(.v 5)]),
  .oapp 4 (.v 6),
  .iff (.not_ (.call 260 0 [(.v 6), (.call 156 0 [(.v 5)])])) [.ret (.c (.bl false))] [],
  .iff (.and_ (.cmp .IsNot (.v 6) (.c (.non))) (.not_ (.call 331 0 [(.v 6), (.c (.int 2))]))) [.ret (.c (.bl false))] []],
  .set 7 (.call 154 0 [(.v 1)]),
  .set 8 (.call 190 0 [(.v 1), (.v 7)]),
  .iff (.or_ (.not_ (.call 260 0 [(.call 406 0 [(.v 8)]), (.v 7)])) (.not_ (.call 251 0 [(.v 1)]))) [.ret (.c (.bl false))] [],
  .iff (.cmp .Eq (.call 294 0 [(.v 1), (.c (.int 4))]) (.c (.int 0))) [.set 9 (.b2 .max (.c (.int 1)) (.b1 .abs (.call 161 0 [(.v 1)]))),
  .set 10 (.call 224 0 [(.v 1), (.fz (.L [(.tup [(.v 9), (.c (.int 1))]), (.tup [(.neg (.v 9)), (.c (.int 1))]), (.tup [(.c (.int 1)), (.v 9)]), (.tup [(.neg (.c (.int 1))), (.v 9)])]))]),
  .iff (.or_ (.not_ (.call 331 0 [(.call 191 0 [(.call 161 0 [(.v 1)]), (.v 9)]), (.c (.int 6))])) (.not_ (.call 331 0 [(.v 10), (.c (.int 8))]))) [.ret (.c (.bl false))] []] [],
  .fzs 4,
  .ret (.call 260 0 [(.fz (.Lc [5] (.n 5) (.Il (.v 2)) (.c (.bl true)) (.call 406 0 [(.v 5)]))), (.v 4)])]
def N445 : List Str := ["_law_script", "_law_store_here", "_law_words", "_law_k", "_law_first", "_law_word", "_law_told", "_law_value", "_law_loose", "_law_great_here", "_law_even"]
def dfT : List (Nat × Df) := [(528, ⟨1, 1, ir528⟩), (369, ⟨2, 2, ir369⟩), (455, ⟨2, 3, ir455⟩), (405, ⟨2, 2, ir405⟩), (433, ⟨1, 3, ir433⟩), (350, ⟨2, 2, ir350⟩), (522, ⟨2, 2, ir522⟩), (407, ⟨1, 1, ir407⟩), (385, ⟨1, 2, ir385⟩), (429, ⟨1, 1, ir429⟩), (406, ⟨1, 4, ir406⟩), (199, ⟨2, 3, ir199⟩), (290, ⟨1, 3, ir290⟩), (294, ⟨2, 7, ir294⟩), (224, ⟨2, 2, ir224⟩), (159, ⟨2, 2, ir159⟩), (191, ⟨2, 3, ir191⟩), (301, ⟨2, 2, ir301⟩), (170, ⟨1, 1, ir170⟩), (260, ⟨2, 3, ir260⟩), (148, ⟨1, 2, ir148⟩), (315, ⟨2, 3, ir315⟩), (161, ⟨1, 4, ir161⟩), (153, ⟨1, 3, ir153⟩), (154, ⟨1, 2, ir154⟩), (89, ⟨1, 5, ir89⟩), (155, ⟨1, 1, ir155⟩), (190, ⟨2, 3, ir190⟩), (146, ⟨2, 4, ir146⟩), (114, ⟨2, 5, ir114⟩), (321, ⟨1, 5, ir321⟩), (165, ⟨1, 4, ir165⟩), (156, ⟨1, 4, ir156⟩), (331, ⟨2, 8, ir331⟩), (251, ⟨1, 4, ir251⟩), (445, ⟨1, 11, ir445⟩)]
def raT : List (Nat × (Nat × List PL.St)) := [(248, (4, ir248))]
def pg : Pg := pgOf dfT dflT glD raT xl
end PL.k71
end
section
set_option Elab.async false
set_option linter.all false
set_option maxRecDepth 100000
set_option maxHeartbeats 0
/-! ### BadValue(what): turned from the kit's worked proof of an own error -/
namespace XBadValue
open PySem PySem.Spec PySem.W PySem.Calls PyProof.Rows PySem.HandSPX
def iA (p1 p2 : Pos) : Arguments := { posonlyargs := [], args := [{ arg := "self", annotation := none, pos := p1 }, { arg := "what", annotation := none, pos := p2 }], vararg := none, kwonlyargs := [], kw_defaults := [], kwarg := none, defaults := [] }
def iB (q1 q2 q3 q4 : Pos) : List Stmt := [.Assign [.Attribute (.Name "self" q1) "what" q2] (.Name "what" q3) q4]
def iS : Scope := { kind := .function, names := [(PySem.Str.ofString "self", .local), (PySem.Str.ofString "what", .local)], isGenerator := false, isCoroutine := false, more := [] }
structure Txt (K : Frag) (C fI : Addr) : Prop where
  cls : ∃ nm q N bs bm sn sub ab col dd k0 k1 k2 k3 k5, K.lookup C = some (excClassObj nm q C N bs bm true sn sub ab col dd k0 k1 k2 k3 k5 "ValueError.__new__") ∧ refsVE bm = true
  sa : findIn K (.ref C) "__setattr__" = some (some (.builtin "object.__setattr__"))
  noN : findIn K (.ref C) "what" = some none
  iC : findIn K (.ref C) "__init__" = some (some (.ref fI))
  tC : typeIn K (.ref fI) = some (.type "function")
  kC : keepIn K (.ref C) = true
  exC : subIn K (.ref C) (.type "BaseException") = some true
  tyC : typeIn K (.ref C) = some (.type "type")
  fn : ∃ (oc : Value) (od : Option Addr) (kV doc pm : Value) (an : Option Addr) (cdv ct : Value) (osl : Array (Option Value)) (p1 p2 q1 q2 q3 q4 : Pos),
    K.lookup fI = some ⟨oc, od, .func (fnOf "__init__" "BadValue.__init__" (iA p1 p2) (iB q1 q2 q3 q4) iS .none kV doc pm an cdv ct), osl⟩ ∧ codeIn K cdv "BadValue.__init__" = true
theorem one_size (v : Value) : [v].length ≤ sizeLine := by
  rw [sizeLine_eq]
  exact (by decide : 1 ≤ 16777216)
theorem ldC {M : Model} {s : Shared} {name : Str} {scope : Scope} {L a : Addr} {cd : Value} {m : Str → Option Value} {x : Str} {pos : Pos} {v : Value} {Q : Value → Shared → Prop} {A : Around} {E : Value → Shared → Prop} (hn : s.heap.Ns L m) (hv : m x = some v) (h : Q v s)
    (hk : scope.kind = .function := by rfl) (hl : (envOfC name scope L a cd).kindOf x = some .local := by rfl) (hd : (x == ("__debug__" : Str)) = false := by decide) :
    wpAny M A (eval (.Name x pos) (envOfC name scope L a cd)) Q E s := wpAny_Name (wpAny_loadName_local hk hl hn hv h) hd
structure InitEnd (h h' : Heap) (x C dx t1 : Addr) (v : Value) : Prop where
  keep : ∀ b o, b ≠ x → h.get? b = some o → h'.get? b = some o
  obj : h'.get? x = some { cls := .ref C, dict := some dx, data := .fields #[.ref t1, .none, .none, .none, .bool false, .none] }
  dbig : h.objs.size ≤ dx
  dne : dx ≠ x
  ns : h'.Ns1 dx (fun y => if y = "what" then some v else none)
structure OwnMade (h h' : Heap) (e C d : Addr) (v : Value) : Prop where
  keep : ∀ b o, h.get? b = some o → h'.get? b = some o
  new : h.objs.size ≤ e
  obj : ∃ oe vs, h'.get? e = some oe ∧ oe.cls = .ref C ∧ oe.dict = some d ∧ oe.data = .fields vs ∧ vs[1]? = some .none ∧ vs[2]? = some .none
  dbig : h.objs.size ≤ d
  dne : d ≠ e
  ns : h'.Ns1 d (fun y => if y = "what" then some v else none)
section
variable {prog : Program} {w : World} {A : Around} {E : Value → Shared → Prop} {R : Result → Shared → Prop} {s : Shared} {K : Frag} {C fI : Addr}
theorem low_init (T : Txt K C fI) {x t0 : Addr} {v : Value} (X : K.In s.heap) (hlim : s.heap.NoLimit) (hx : s.heap.get? x = some (excO C t0)) (hnx : K.lookup x = none) (hroom : A.depth < recursionLimit)
    (hq : ∀ h' tk dx, InitEnd s.heap h' x C dx t0 v → R (.ok (.ret .none)) { s with heap := h', toks := tk }) :
    codeAny (model prog w) A (.call (.ref fI) ⟨[.ref x, v], []⟩) R s := by
  obtain ⟨oc, od, kV, doc, pm, an, cdv, ct, osl, p1, p2, q1, q2, q3, q4, ho, hcd⟩ := T.fn
  obtain ⟨nm, q, N, bs, bm, sn, sub, ab, col, dd, k0, k1, k2, k3, k5, hC, hbm⟩ := T.cls
  have hcl : clsIn K C = some { name := nm, bases := bs, mro := .ref C :: bm, ns := N, qualname := q, hasDict := true, slotNames := sn, subclasses := sub, abstract := ab, collection := col, hasDel := false } := by unfold clsIn; rw [hC] <;> rfl
  refine Att.call_fn (binds := [("self", .ref x), ("what", v)]) X hlim ho hcd hroom (BindsTo.of_eq (by first | rfl | with_unfolding_all rfl)) (by first | rfl | decide | with_unfolding_all rfl) (fun s₁ IC => ?_) rfl rfl rfl
  obtain ⟨h₁, tk₁, rfl⟩ := IC.toInCall.same
  have k : ∀ b o, s.heap.get? b = some o → h₁.get? b = some o := IC.toInCall.keep
  have hn := IC.toInCall.ns
  have hxL : s.heap.objs.size ≠ x := Nat.ne_of_gt (Heap.lt_size hx)
  have X₁ : K.In h₁ := X.keeps k
  have hx₁ := k _ _ hx
  show wpAny _ _ (execs _ _) _ _ _
  refine wpAny_execs_cons (plainObj_wpAny_Assign_Attribute ?_)
  refine ldC (v := v) hn (by first | rfl | with_unfolding_all rfl | kernel_rfl) (ldC (v := .ref x) hn (by first | rfl | with_unfolding_all rfl | kernel_rfl) ?_)
  refine set_plain X₁ (ox := excO C t0) (od := none) ⟨hx₁, rfl, rfl, trivial⟩ T.sa ?_
  refine exc_osa X₁ hx₁ hcl (show refsVE (.ref C :: bm) = true from hbm) rfl T.noN (fun h₃ tk₃ dx k₃ dn dne hx₃ hn₃ => ?_)
  show wpAny _ _ (execs _ _) _ _ _
  have z : s.heap.objs.size < h₁.objs.size := hn.lt
  exact wpAny_execs_nil (hq h₃ tk₃ dx ⟨fun b o hb e => k₃ b o hb (k b o e), hx₃, Nat.le_of_lt (Nat.lt_of_lt_of_le z dn), dne, hn₃⟩)
theorem low_made (T : Txt K C fI) {v : Value} (X : K.In s.heap) (hlim : s.heap.NoLimit) (hroom : A.depth + 1 < recursionLimit)
    (hq : ∀ h' tk e d, OwnMade s.heap h' e C d v → R (.ok (.ret (.ref e))) { s with heap := h', toks := tk }) :
    codeAny (model prog w) A (.call (.ref C) ⟨[v], []⟩) R s := by
  obtain ⟨nm, q, N, bs, bm, sn, sub, ab, col, dd, k0, k1, k2, k3, k5, hC, hbm⟩ := T.cls
  obtain ⟨hp, g, dr, tk, os⟩ := s
  have k : ∀ b o, hp.get? b = some o → ((hp.push (kdv_tup [v])).push (excO C hp.objs.size)).get? b = some o := fun b o e => Heap.get?_push_of_some _ (Heap.get?_push_of_some _ e)
  have hget : ((hp.push (kdv_tup [v])).push (excO C hp.objs.size)).get? (hp.objs.size + 1) = some (excO C hp.objs.size) := by heap_get
  have hnx : K.lookup (hp.objs.size + 1) = none := by
    cases e : K.lookup (hp.objs.size + 1) with
    | none => rfl
    | some o =>
      have z : hp.get? (hp.objs.size + 1) = some o := X _ _ e
      exact absurd (Nat.lt_of_succ_lt (Heap.lt_size z)) (Nat.lt_irrefl _)
  refine call_own F.excBase_ValueError (fun X => refsVE_contains X bm hbm) (X _ _ hC) (looks_findIn X T.iC) (fun self => bind_fn X self T.tC) (one_size v) ?_
  refine low_init (s := ⟨(hp.push (kdv_tup [v])).push (excO C hp.objs.size), g, dr, tk, os⟩) T (X.keeps k) (hlim.keeps k) hget hnx ?_ fun h' tk' dx ⟨k', hx, dn, dne, hns⟩ => ?_
  · show A.depth + 1 < recursionLimit
    exact hroom
  · have old : ∀ b o, hp.get? b = some o → h'.get? b = some o := fun b o e => k' b o (Nat.ne_of_lt (Nat.lt_succ_of_lt (Heap.lt_size e))) (k b o e)
    have z : hp.objs.size + 1 + 1 ≤ dx := by
      first
        | (simpa only [Heap.size_push] using dn)
        | exact dn
        | (have q := dn; rw [Heap.size_push, Heap.size_push] at q; exact q)
    exact ⟨rfl, hq h' tk' (hp.objs.size + 1) dx ⟨old, Nat.le_succ _, ⟨_, _, hx, rfl, rfl, rfl, rfl, rfl⟩, Nat.le_trans (Nat.le_trans (Nat.le_succ _) (Nat.le_succ _)) z, dne, hns⟩⟩
end
end XBadValue
namespace XBadValue
open PySem PySem.Spec PyProof.Rows L2
theorem relO_low {v : V} {v' : Value} (r : RelV v v') (f : Str) : RelO (List.lookup f [(("what" : Str), v)]) (if f = "what" then some v' else none) := by
  by_cases hw : f = "what"
  · subst hw
    rw [if_pos rfl]
    have q : List.lookup ("what" : Str) [(("what" : Str), v)] = some v := by simp [List.lookup]
    rw [q]
    exact r
  · rw [if_neg hw]
    have qw : (f == ("what" : Str)) = false := by simpa using hw
    have q2 : List.lookup f [(("what" : Str), v)] = none := by simp [List.lookup, qw]
    rw [q2]
    trivial
section
variable {X : Cx} {C fI : Addr}
def tMk (C : Addr) (ta : TA) : L2.St → Hp → XK → Prop := fun σ H Q => ta σ H fun vs H1 => ∃ v, vs = [v] ∧ ∀ d, H1 d = none → Q (.ref C) (some d) (upd H1 d (.xd [(("what" : Str), v)]))
theorem pmk {a : Expr} {ta : TA} {p pos : Pos} {k : Nat} (T : Txt X.K C fI) (gC : X.mg "BadValue" = some (.ref C)) (hr : Room k X.A) (ha : PA X [a] ta) (hg : Gl X "BadValue")
    (he : starEach (a :: []) X.env = (false, eval a X.env) :: starEach [] X.env) (hpl : (backTo pos (starEach [] X.env)).any (·.1) = false := by rfl) :
    L2N.PMk X (.Call (.Name "BadValue" p) [a] [] pos) (tMk C ta) := by
  intro pins s σ H Q I h
  refine wpAny_Call_Name_kw (ld_glob I hg gC ?_)
  refine PySem.W.callWith_K (h₀ := X.base) I.ok.mod.kin T.kC (thn (ha.run pos pins s σ H _ I h) fun us s1 hh => ?_) he hpl
  obtain ⟨vs, H1, I1, r1, v, ev, q1⟩ := hh
  subst ev
  refine ⟨I1.kIn, ?_⟩
  cases r1 with
  | cons rv rn =>
    rename_i v' us'
    cases rn
    show wpAny _ _ (call (.ref C) [v']) _ _ _
    have hlim := I1.nolimit
    obtain ⟨hp, g, dr, tk, os⟩ := s1
    refine wpAny_call (low_made T I1.kIn hlim (by have := hr.dp; omega) fun h' tk' e d M => ?_)
    show L2N.MkP X pins σ Q (.ref e) ⟨h', g, dr, tk', os⟩
    obtain ⟨oe, fv, hoe, hc, hd, hdat, h1, h2⟩ := M.obj
    have hns := M.ns
    obtain ⟨G', g1, g2⟩ := restrict h' fun b => decide (b ≠ e)
    have gk : ∀ b, b ≠ e → G'.get? b = h'.get? b := fun b hb => g1 b (decide_eq_true hb)
    have ge : G'.get? e = none := g2 e (by simp)
    have old : ∀ b o, hp.get? b = some o → G'.get? b = some o := fun b o q => (gk b (Nat.ne_of_lt (Nat.lt_of_lt_of_le (Heap.lt_size q) M.new))).trans (M.keep b o q)
    have ob : ObjOk X.prog X.w (upd H1 d (.xd [(("what" : Str), v)])) G' d (.xd [(("what" : Str), v)]) :=
      ⟨_, hns.at (fun o q => (gk d M.dne).trans q), fun f => relO_low rv f⟩
    have J : Inv X pins σ (upd H1 d (.xd [(("what" : Str), v)])) ⟨G', g, dr, tk', os⟩ := I1.laid (t' := tk') old M.dbig ob
    refine ⟨e, oe, fv, ⟨G', g, dr, tk', os⟩, _, .ref C, some d, rfl, J, fun b o q => ?_, ge, hoe, ⟨hc, hd, fun vs z => by rw [hdat] at z; cases z; exact h2⟩, hdat, h1, ?_, rfl, I1.bare, raises_own T.exC T.tyC, q1 d (I1.hok.fresh M.dbig)⟩
    · by_cases hb : b = e
      · have q' : G'.get? b = some o := q
        rw [hb, ge] at q'; cases q'
      · exact (gk b hb).symm.trans q
    · rw [upd_ne (Ne.symm M.dne)]
      exact I1.hok.fresh M.new
theorem rz {fx : PL.Fx} {K : PySem.W.Frag} {mg : Str → Option Value} {c : Nat} (T : Txt K (fx.ca c) fI) (gC : mg "BadValue" = some (.ref (fx.ca c))) (hf : fx.xn c = "what") : PL.RzF fx K mg "BadValue" c := by
  intro X k W a ta p pos pos2 eK eM hc hr tk ha hg hs
  subst eK
  subst eM
  rw [hf]
  exact L2N.ps_raise hc tk (pmk T gC hr ha hg (PL.star_ns hs))
end
end XBadValue

namespace PL.k71
open PySem PySem.Spec PyProof.Rows L2 PL
abbrev Rw : PySem.W.OpenRow := PySem.W.OpenLaw.row PySem.Challenge.rw_wheelsky_k71_fraction_words
abbrev qv : Program := PySem.W.view Rw.prog [56]
def top (i : Nat) : Stmt := PySem.Challenge.pw_wheelsky_k71_fraction_words.main.body.getD i (.Pass ⟨0, 0, 0, 0⟩)
def cls0 : Stmt → Stmt
  | .ClassDef _ _ _ (b :: _) _ _ _ _ _ _ _ => b
  | s => s
theorem ck528 : chSs tb.nol N528 (defScope (top 14)) ir528 (defBody (top 14)) = true := by decide +kernel
theorem sc528 : FnScope N528 ["value"] (defScope (top 14)) := ⟨rfl, rfl, rfl, by decide +kernel, rfl, by decide +kernel, by decide +kernel⟩
def d528 : He.DefD := ⟨("whole_number", none), "whole_number", "whole_number", defArgs (top 14), defBody (top 14), defScope (top 14), [], []⟩
theorem ck369 : chSs tb.nol N369 (defScope (top 15)) ir369 (defBody (top 15)) = true := by decide +kernel
theorem sc369 : FnScope N369 ["left", "right"] (defScope (top 15)) := ⟨rfl, rfl, rfl, by decide +kernel, rfl, by decide +kernel, by decide +kernel⟩
def d369 : He.DefD := ⟨("common_divisor", none), "common_divisor", "common_divisor", defArgs (top 15), defBody (top 15), defScope (top 15), [], []⟩
theorem ck455 : chSs tb.nol N455 (defScope (top 16)) ir455 (defBody (top 16)) = true := by decide +kernel
theorem sc455 : FnScope N455 ["numerator", "denominator"] (defScope (top 16)) := ⟨rfl, rfl, rfl, by decide +kernel, rfl, by decide +kernel, by decide +kernel⟩
def d455 : He.DefD := ⟨("lowest", none), "lowest", "lowest", defArgs (top 16), defBody (top 16), defScope (top 16), [], []⟩
theorem ck405 : chSs tb.nol N405 (defScope (top 18)) ir405 (defBody (top 18)) = true := by decide +kernel
theorem sc405 : FnScope N405 ["numerator", "denominator"] (defScope (top 18)) := ⟨rfl, rfl, rfl, by decide +kernel, rfl, by decide +kernel, by decide +kernel⟩
def d405 : He.DefD := ⟨("fraction", none), "fraction", "fraction", defArgs (top 18), defBody (top 18), defScope (top 18), [.int 1], []⟩
theorem ck433 : chSs tb.nol N433 (defScope (top 19)) ir433 (defBody (top 19)) = true := by decide +kernel
theorem sc433 : FnScope N433 ["value"] (defScope (top 19)) := ⟨rfl, rfl, rfl, by decide +kernel, rfl, by decide +kernel, by decide +kernel⟩
def d433 : He.DefD := ⟨("is_fraction", none), "is_fraction", "is_fraction", defArgs (top 19), defBody (top 19), defScope (top 19), [], []⟩
theorem ck350 : chSs tb.nol N350 (defScope (top 20)) ir350 (defBody (top 20)) = true := by decide +kernel
theorem sc350 : FnScope N350 ["left", "right"] (defScope (top 20)) := ⟨rfl, rfl, rfl, by decide +kernel, rfl, by decide +kernel, by decide +kernel⟩
def d350 : He.DefD := ⟨("check_pair", none), "check_pair", "check_pair", defArgs (top 20), defBody (top 20), defScope (top 20), [], []⟩
theorem ck522 : chSs tb.nol N522 (defScope (top 21)) ir522 (defBody (top 21)) = true := by decide +kernel
theorem sc522 : FnScope N522 ["left", "right"] (defScope (top 21)) := ⟨rfl, rfl, rfl, by decide +kernel, rfl, by decide +kernel, by decide +kernel⟩
def d522 : He.DefD := ⟨("times", none), "times", "times", defArgs (top 21), defBody (top 21), defScope (top 21), [], []⟩
theorem ck407 : chSs tb.nol N407 (defScope (top 23)) ir407 (defBody (top 23)) = true := by decide +kernel
theorem sc407 : FnScope N407 ["value"] (defScope (top 23)) := ⟨rfl, rfl, rfl, by decide +kernel, rfl, by decide +kernel, by decide +kernel⟩
def d407 : He.DefD := ⟨("fraction_word", none), "fraction_word", "fraction_word", defArgs (top 23), defBody (top 23), defScope (top 23), [], []⟩
theorem ck385 : chSs tb.nol N385 (defScope (top 27)) ir385 (defBody (top 27)) = true := by decide +kernel
theorem sc385 : FnScope N385 ["word"] (defScope (top 27)) := ⟨rfl, rfl, rfl, by decide +kernel, rfl, by decide +kernel, by decide +kernel⟩
def d385 : He.DefD := ⟨("digits_fit", none), "digits_fit", "digits_fit", defArgs (top 27), defBody (top 27), defScope (top 27), [], []⟩
theorem ck429 : chSs tb.nol N429 (defScope (top 28)) ir429 (defBody (top 28)) = true := by decide +kernel
theorem sc429 : FnScope N429 ["word"] (defScope (top 28)) := ⟨rfl, rfl, rfl, by decide +kernel, rfl, by decide +kernel, by decide +kernel⟩
def d429 : He.DefD := ⟨("integer_fits", none), "integer_fits", "integer_fits", defArgs (top 28), defBody (top 28), defScope (top 28), [], []⟩
theorem ck406 : chSs tb.nol N406 (defScope (top 29)) ir406 (defBody (top 29)) = true := by decide +kernel
theorem sc406 : FnScope N406 ["word"] (defScope (top 29)) := ⟨rfl, rfl, rfl, by decide +kernel, rfl, by decide +kernel, by decide +kernel⟩
def d406 : He.DefD := ⟨("fraction_of", none), "fraction_of", "fraction_of", defArgs (top 29), defBody (top 29), defScope (top 29), [], []⟩
theorem ck199 : chSs tb.nol N199 (defScope (top 31)) ir199 (defBody (top 31)) = true := by decide +kernel
theorem sc199 : FnScope N199 ["_law_number", "_law_turn"] (defScope (top 31)) := ⟨rfl, rfl, rfl, by decide +kernel, rfl, by decide +kernel, by decide +kernel⟩
def d199 : He.DefD := ⟨("_law_mixed", none), "_law_mixed", "_law_mixed", defArgs (top 31), defBody (top 31), defScope (top 31), [], []⟩
theorem ck290 : chSs tb.nol N290 (defScope (top 32)) ir290 (defBody (top 32)) = true := by decide +kernel
theorem sc290 : FnScope N290 ["_law_script"] (defScope (top 32)) := ⟨rfl, rfl, rfl, by decide +kernel, rfl, by decide +kernel, by decide +kernel⟩
def d290 : He.DefD := ⟨("_law_store", none), "_law_store", "_law_store", defArgs (top 32), defBody (top 32), defScope (top 32), [], []⟩
theorem ck294 : chSs tb.nol N294 (defScope (top 33)) ir294 (defBody (top 33)) = true := by decide +kernel
theorem sc294 : FnScope N294 ["_law_store_here", "_law_many"] (defScope (top 33)) := ⟨rfl, rfl, rfl, by decide +kernel, rfl, by decide +kernel, by decide +kernel⟩
def d294 : He.DefD := ⟨("_law_take", none), "_law_take", "_law_take", defArgs (top 33), defBody (top 33), defScope (top 33), [], []⟩
theorem ck224 : chSs tb.nol N224 (defScope (top 34)) ir224 (defBody (top 34)) = true := by decide +kernel
theorem sc224 : FnScope N224 ["_law_store_here", "_law_row"] (defScope (top 34)) := ⟨rfl, rfl, rfl, by decide +kernel, rfl, by decide +kernel, by decide +kernel⟩
def d224 : He.DefD := ⟨("_law_pick", none), "_law_pick", "_law_pick", defArgs (top 34), defBody (top 34), defScope (top 34), [], []⟩
theorem ck159 : chSs tb.nol N159 (defScope (top 35)) ir159 (defBody (top 35)) = true := by decide +kernel
theorem sc159 : FnScope N159 ["_law_left", "_law_right"] (defScope (top 35)) := ⟨rfl, rfl, rfl, by decide +kernel, rfl, by decide +kernel, by decide +kernel⟩
def d159 : He.DefD := ⟨("_law_gcd", none), "_law_gcd", "_law_gcd", defArgs (top 35), defBody (top 35), defScope (top 35), [], []⟩
theorem ck191 : chSs tb.nol N191 (defScope (top 36)) ir191 (defBody (top 36)) = true := by decide +kernel
theorem sc191 : FnScope N191 ["_law_top", "_law_bottom"] (defScope (top 36)) := ⟨rfl, rfl, rfl, by decide +kernel, rfl, by decide +kernel, by decide +kernel⟩
def d191 : He.DefD := ⟨("_law_lowest", none), "_law_lowest", "_law_lowest", defArgs (top 36), defBody (top 36), defScope (top 36), [], []⟩
theorem ck301 : chSs tb.nol N301 (defScope (top 37)) ir301 (defBody (top 37)) = true := by decide +kernel
theorem sc301 : FnScope N301 ["_law_left", "_law_right"] (defScope (top 37)) := ⟨rfl, rfl, rfl, by decide +kernel, rfl, by decide +kernel, by decide +kernel⟩
def d301 : He.DefD := ⟨("_law_times", none), "_law_times", "_law_times", defArgs (top 37), defBody (top 37), defScope (top 37), [], []⟩
theorem ck170 : chSs tb.nol N170 (defScope (top 38)) ir170 (defBody (top 38)) = true := by decide +kernel
theorem sc170 : FnScope N170 ["_law_told"] (defScope (top 38)) := ⟨rfl, rfl, rfl, by decide +kernel, rfl, by decide +kernel, by decide +kernel⟩
def d170 : He.DefD := ⟨("_law_is_whole", none), "_law_is_whole", "_law_is_whole", defArgs (top 38), defBody (top 38), defScope (top 38), [], []⟩
theorem ck260 : chSs tb.nol N260 (defScope (top 39)) ir260 (defBody (top 39)) = true := by decide +kernel
theorem sc260 : FnScope N260 ["_law_told", "_law_due"] (defScope (top 39)) := ⟨rfl, rfl, rfl, by decide +kernel, rfl, by decide +kernel, by decide +kernel⟩
def d260 : He.DefD := ⟨("_law_same", none), "_law_same", "_law_same", defArgs (top 39), defBody (top 39), defScope (top 39), [], []⟩
theorem ck148 : chSs tb.nol N148 (defScope (top 40)) ir148 (defBody (top 40)) = true := by decide +kernel
theorem sc148 : FnScope N148 ["_law_thing"] (defScope (top 40)) := ⟨rfl, rfl, rfl, by decide +kernel, rfl, by decide +kernel, by decide +kernel⟩
def d148 : He.DefD := ⟨("_law_fits", none), "_law_fits", "_law_fits", defArgs (top 40), defBody (top 40), defScope (top 40), [], []⟩
theorem ck315 : chSs tb.nol N315 (defScope (top 41)) ir315 (defBody (top 41)) = true := by decide +kernel
theorem sc315 : FnScope N315 ["_law_store_here", "_law_reach"] (defScope (top 41)) := ⟨rfl, rfl, rfl, by decide +kernel, rfl, by decide +kernel, by decide +kernel⟩
def d315 : He.DefD := ⟨("_law_whole", none), "_law_whole", "_law_whole", defArgs (top 41), defBody (top 41), defScope (top 41), [], []⟩
theorem ck161 : chSs tb.nol N161 (defScope (top 42)) ir161 (defBody (top 42)) = true := by decide +kernel
theorem sc161 : FnScope N161 ["_law_store_here"] (defScope (top 42)) := ⟨rfl, rfl, rfl, by decide +kernel, rfl, by decide +kernel, by decide +kernel⟩
def d161 : He.DefD := ⟨("_law_great", none), "_law_great", "_law_great", defArgs (top 42), defBody (top 42), defScope (top 42), [], []⟩
theorem ck153 : chSs tb.nol N153 (defScope (top 43)) ir153 (defBody (top 43)) = true := by decide +kernel
theorem sc153 : FnScope N153 ["_law_store_here"] (defScope (top 43)) := ⟨rfl, rfl, rfl, by decide +kernel, rfl, by decide +kernel, by decide +kernel⟩
def d153 : He.DefD := ⟨("_law_frac", none), "_law_frac", "_law_frac", defArgs (top 43), defBody (top 43), defScope (top 43), [], []⟩
theorem ck154 : chSs tb.nol N154 (defScope (top 44)) ir154 (defBody (top 44)) = true := by decide +kernel
theorem sc154 : FnScope N154 ["_law_store_here"] (defScope (top 44)) := ⟨rfl, rfl, rfl, by decide +kernel, rfl, by decide +kernel, by decide +kernel⟩
def d154 : He.DefD := ⟨("_law_frac_wide", none), "_law_frac_wide", "_law_frac_wide", defArgs (top 44), defBody (top 44), defScope (top 44), [], []⟩
theorem ck89 : chSs tb.nol N89 (defScope (top 45)) ir89 (defBody (top 45)) = true := by decide +kernel
theorem sc89 : FnScope N89 ["_law_store_here"] (defScope (top 45)) := ⟨rfl, rfl, rfl, by decide +kernel, rfl, by decide +kernel, by decide +kernel⟩
def d89 : He.DefD := ⟨("_law_bad_frac", none), "_law_bad_frac", "_law_bad_frac", defArgs (top 45), defBody (top 45), defScope (top 45), [], []⟩
theorem ck155 : chSs tb.nol N155 (defScope (top 46)) ir155 (defBody (top 46)) = true := by decide +kernel
theorem sc155 : FnScope N155 ["_law_value"] (defScope (top 46)) := ⟨rfl, rfl, rfl, by decide +kernel, rfl, by decide +kernel, by decide +kernel⟩
def d155 : He.DefD := ⟨("_law_frac_word", none), "_law_frac_word", "_law_frac_word", defArgs (top 46), defBody (top 46), defScope (top 46), [], []⟩
theorem ck190 : chSs tb.nol N190 (defScope (top 47)) ir190 (defBody (top 47)) = true := by decide +kernel
theorem sc190 : FnScope N190 ["_law_store_here", "_law_value"] (defScope (top 47)) := ⟨rfl, rfl, rfl, by decide +kernel, rfl, by decide +kernel, by decide +kernel⟩
def d190 : He.DefD := ⟨("_law_loose_word", none), "_law_loose_word", "_law_loose_word", defArgs (top 47), defBody (top 47), defScope (top 47), [], []⟩
theorem ck248 : raB tb N248 (defScope (top 48)) "_law_call" ir248 (defBody (top 48)) = true := by decide +kernel
theorem sc248 : FnScope N248 ["_law_call"] (defScope (top 48)) := ⟨rfl, rfl, rfl, by decide +kernel, rfl, by decide +kernel, by decide +kernel⟩
def d248 : He.DefD := ⟨("_law_refusal", none), "_law_refusal", "_law_refusal", defArgs (top 48), defBody (top 48), defScope (top 48), [], []⟩
theorem ck146 : chSs tb.nol N146 (defScope (top 49)) ir146 (defBody (top 49)) = true := by decide +kernel
theorem sc146 : FnScope N146 ["_law_store_here", "_law_many"] (defScope (top 49)) := ⟨rfl, rfl, rfl, by decide +kernel, rfl, by decide +kernel, by decide +kernel⟩
def d146 : He.DefD := ⟨("_law_figures", none), "_law_figures", "_law_figures", defArgs (top 49), defBody (top 49), defScope (top 49), [], []⟩
theorem ck114 : chSs tb.nol N114 (defScope (top 50)) ir114 (defBody (top 50)) = true := by decide +kernel
theorem sc114 : FnScope N114 ["_law_store_here", "_law_word"] (defScope (top 50)) := ⟨rfl, rfl, rfl, by decide +kernel, rfl, by decide +kernel, by decide +kernel⟩
def d114 : He.DefD := ⟨("_law_changed", none), "_law_changed", "_law_changed", defArgs (top 50), defBody (top 50), defScope (top 50), [], []⟩
theorem ck321 : chSs tb.nol N321 (defScope (top 51)) ir321 (defBody (top 51)) = true := by decide +kernel
theorem sc321 : FnScope N321 ["_law_store_here"] (defScope (top 51)) := ⟨rfl, rfl, rfl, by decide +kernel, rfl, by decide +kernel, by decide +kernel⟩
def d321 : He.DefD := ⟨("_law_word_drawn", none), "_law_word_drawn", "_law_word_drawn", defArgs (top 51), defBody (top 51), defScope (top 51), [], []⟩
theorem ck165 : chSs tb.nol N165 (defScope (top 52)) ir165 (defBody (top 52)) = true := by decide +kernel
theorem sc165 : FnScope N165 ["_law_word"] (defScope (top 52)) := ⟨rfl, rfl, rfl, by decide +kernel, rfl, by decide +kernel, by decide +kernel⟩
def d165 : He.DefD := ⟨("_law_integer_due", none), "_law_integer_due", "_law_integer_due", defArgs (top 52), defBody (top 52), defScope (top 52), [], []⟩
theorem ck156 : chSs tb.nol N156 (defScope (top 53)) ir156 (defBody (top 53)) = true := by decide +kernel
theorem sc156 : FnScope N156 ["_law_word"] (defScope (top 53)) := ⟨rfl, rfl, rfl, by decide +kernel, rfl, by decide +kernel, by decide +kernel⟩
def d156 : He.DefD := ⟨("_law_fraction_due", none), "_law_fraction_due", "_law_fraction_due", defArgs (top 53), defBody (top 53), defScope (top 53), [], []⟩
theorem ck331 : chSs tb.nol N331 (defScope (top 54)) ir331 (defBody (top 54)) = true := by decide +kernel
theorem sc331 : FnScope N331 ["_law_value", "_law_many"] (defScope (top 54)) := ⟨rfl, rfl, rfl, by decide +kernel, rfl, by decide +kernel, by decide +kernel⟩
def d331 : He.DefD := ⟨("_law_written", none), "_law_written", "_law_written", defArgs (top 54), defBody (top 54), defScope (top 54), [], []⟩
theorem ck251 : chSs tb N251 (defScope (top 55)) ir251 (defBody (top 55)) = true := by decide +kernel
theorem sc251 : FnScope N251 ["_law_store_here"] (defScope (top 55)) := ⟨rfl, rfl, rfl, by decide +kernel, rfl, by decide +kernel, by decide +kernel⟩
def d251 : He.DefD := ⟨("_law_refuses", none), "_law_refuses", "_law_refuses", defArgs (top 55), defBody (top 55), defScope (top 55), [], []⟩
theorem ck445 : chSs tb.nol N445 (defScope (top 56)) ir445 (defBody (top 56)) = true := by decide +kernel
theorem sc445 : FnScope N445 ["_law_script"] (defScope (top 56)) := ⟨rfl, rfl, rfl, by decide +kernel, rfl, by decide +kernel, by decide +kernel⟩
def d445 : He.DefD := ⟨("law", none), "law", "law", defArgs (top 56), defBody (top 56), defScope (top 56), [], []⟩
def di0 : He.DefD := ⟨("BadValue", some "__init__"), "__init__", "BadValue.__init__", defArgs (cls0 (top 2)), defBody (cls0 (top 2)), defScope (cls0 (top 2)), [], []⟩
def fn : List He.DefD := [d528, d369, d455, d405, d433, d350, d522, d407, d385, d429, d406, d199, d290, d294, d224, d159, d191, d301, d170, d260, d148, d315, d161, d153, d154, d89, d155, d190, d248, d146, d114, d321, d165, d156, d331, d251, d445, di0]
def fa : List He.Fa := [.glo "whole_number", .glo "common_divisor", .glo "lowest", .glo "fraction", .glo "is_fraction", .glo "check_pair", .glo "times", .glo "fraction_word", .glo "digits_fit", .glo "integer_fits", .glo "fraction_of", .glo "_law_mixed", .glo "_law_store", .glo "_law_take", .glo "_law_pick", .glo "_law_gcd", .glo "_law_lowest", .glo "_law_times", .glo "_law_is_whole", .glo "_law_same", .glo "_law_fits", .glo "_law_whole", .glo "_law_great", .glo "_law_frac", .glo "_law_frac_wide", .glo "_law_bad_frac", .glo "_law_frac_word", .glo "_law_loose_word", .glo "_law_refusal", .glo "_law_figures", .glo "_law_changed", .glo "_law_word_drawn", .glo "_law_integer_due", .glo "_law_fraction_due", .glo "_law_written", .glo "_law_refuses", .glo "law"]
def tf : List He.Defn := [(("_law_refuses" : Str), none)]
def ex (K : PySem.W.Frag) : Bool := allB clT nmT glD blT xl K && oexB K (He.ga K "BadValue") (He.fAd K (("BadValue" : Str), some "__init__"))
def names0 : List Str := ["SkyError", "BadValue", "Mismatch", "Still", "Endless", "TooMany", "NoName", "Taken", "Locked", "Looped", "Broken", "ReadError", "whole_number", "common_divisor", "lowest", "fraction", "is_fraction", "check_pair", "times", "fraction_word"]
def names1 : List Str := ["DIGITS", "MOST_DIGITS", "digits_fit", "integer_fits", "fraction_of", "_law_mixed", "_law_store", "_law_take", "_law_pick", "_law_gcd", "_law_lowest", "_law_times", "_law_is_whole", "_law_same", "_law_fits", "_law_whole", "_law_great", "_law_frac", "_law_frac_wide", "_law_bad_frac"]
def names2 : List Str := ["_law_frac_word", "_law_loose_word", "_law_refusal", "_law_figures", "_law_changed", "_law_word_drawn", "_law_integer_due", "_law_fraction_due", "_law_written", "_law_refuses"]
def names : List Str := names0 ++ names1 ++ names2
abbrev hk : PySem.W.Hook := hookN 4 fa fn [] tf ex
def ob (s : PySem.W.SharedT) : He.AlX := obsN 4 fa fn [] tf ex (HandSHeadRun.getT s)
theorem ob_eq (s : PySem.W.SharedT) : ob s = hk.obs s.abs := obsN_eq (HandSHeadRun.getT_eq s)
theorem run (w : World) : HandSHeadRun.RunEq Rw qv hk ob 4000 names w := by
  intro os
  kernel_rfl
end PL.k71
end
section
set_option Elab.async false
set_option linter.all false
set_option maxRecDepth 100000
set_option maxHeartbeats 0
namespace PL.k71
open PySem PySem.Spec PyProof.Rows L2 PL
section
variable {P : Program} {w : World} {K : PySem.W.Frag} {mg : Str → Option Value} {base h : Heap}
def TT (K : PySem.W.Frag) : List (Addr × Str) := [((He.cT K (("_law_refuses" : Str), none)).2, ("_law_refuses.<locals>.<lambda>" : Str))]
def fx (K : PySem.W.Frag) : Fx := fxOf K clT nmT xl (TT K)
theorem bn528 {fd : FuncData} (F : FunD K d528.name d528.qual d528.params d528.body d528.scope (d528.dvs K) (d528.kws K) (He.fAd K d528.at_) fd) : Binds K fd ["value"] [] := FunD.bindsN F fun _ _ _ _ _ _ us hl => match us, hl with | [_], _ => rfl
theorem bn369 {fd : FuncData} (F : FunD K d369.name d369.qual d369.params d369.body d369.scope (d369.dvs K) (d369.kws K) (He.fAd K d369.at_) fd) : Binds K fd ["left", "right"] [] := FunD.bindsN F fun _ _ _ _ _ _ us hl => match us, hl with | [_, _], _ => rfl
theorem bn455 {fd : FuncData} (F : FunD K d455.name d455.qual d455.params d455.body d455.scope (d455.dvs K) (d455.kws K) (He.fAd K d455.at_) fd) : Binds K fd ["numerator", "denominator"] [] := FunD.bindsN F fun _ _ _ _ _ _ us hl => match us, hl with | [_, _], _ => rfl
theorem bn405 {fd : FuncData} (F : FunD K d405.name d405.qual d405.params d405.body d405.scope (d405.dvs K) (d405.kws K) (He.fAd K d405.at_) fd) : Binds K fd ["numerator", "denominator"] [] := by
  obtain ⟨ds, r, b⟩ := FunD.binds1 (ps := ["numerator", "denominator"]) F 2 1 (by intro z; cases z) rfl fun _ _ _ _ _ _ _ us its hl hm => match us, its, hl, hm with | [_, _], [_], _, _ => ⟨_, rfl, rfl⟩
  cases r
  exact b
theorem bn405_1 {fd : FuncData} (F : FunD K d405.name d405.qual d405.params d405.body d405.scope (d405.dvs K) (d405.kws K) (He.fAd K d405.at_) fd) : ∃ ds zs, Binds K fd ["numerator", "denominator"] ds ∧ Vals zs ds ∧ ∀ w, Rels (fx K) w (pg.dfl 405 1) zs := by
  obtain ⟨ds, r, b⟩ := FunD.binds1 (ps := ["numerator", "denominator"]) F 1 0 (by intro z; cases z) rfl fun _ _ _ _ _ _ _ us its hl hm => match us, its, hl, hm with | [_], [_], _, _ => ⟨_, rfl, rfl⟩
  exact ⟨ds, _, b, r, fun w => by repeat (first | exact rfl | refine ⟨_, _, rfl, rfl, ?_⟩)⟩
theorem bn433 {fd : FuncData} (F : FunD K d433.name d433.qual d433.params d433.body d433.scope (d433.dvs K) (d433.kws K) (He.fAd K d433.at_) fd) : Binds K fd ["value"] [] := FunD.bindsN F fun _ _ _ _ _ _ us hl => match us, hl with | [_], _ => rfl
theorem bn350 {fd : FuncData} (F : FunD K d350.name d350.qual d350.params d350.body d350.scope (d350.dvs K) (d350.kws K) (He.fAd K d350.at_) fd) : Binds K fd ["left", "right"] [] := FunD.bindsN F fun _ _ _ _ _ _ us hl => match us, hl with | [_, _], _ => rfl
theorem bn522 {fd : FuncData} (F : FunD K d522.name d522.qual d522.params d522.body d522.scope (d522.dvs K) (d522.kws K) (He.fAd K d522.at_) fd) : Binds K fd ["left", "right"] [] := FunD.bindsN F fun _ _ _ _ _ _ us hl => match us, hl with | [_, _], _ => rfl
theorem bn407 {fd : FuncData} (F : FunD K d407.name d407.qual d407.params d407.body d407.scope (d407.dvs K) (d407.kws K) (He.fAd K d407.at_) fd) : Binds K fd ["value"] [] := FunD.bindsN F fun _ _ _ _ _ _ us hl => match us, hl with | [_], _ => rfl
theorem bn385 {fd : FuncData} (F : FunD K d385.name d385.qual d385.params d385.body d385.scope (d385.dvs K) (d385.kws K) (He.fAd K d385.at_) fd) : Binds K fd ["word"] [] := FunD.bindsN F fun _ _ _ _ _ _ us hl => match us, hl with | [_], _ => rfl
theorem bn429 {fd : FuncData} (F : FunD K d429.name d429.qual d429.params d429.body d429.scope (d429.dvs K) (d429.kws K) (He.fAd K d429.at_) fd) : Binds K fd ["word"] [] := FunD.bindsN F fun _ _ _ _ _ _ us hl => match us, hl with | [_], _ => rfl
theorem bn406 {fd : FuncData} (F : FunD K d406.name d406.qual d406.params d406.body d406.scope (d406.dvs K) (d406.kws K) (He.fAd K d406.at_) fd) : Binds K fd ["word"] [] := FunD.bindsN F fun _ _ _ _ _ _ us hl => match us, hl with | [_], _ => rfl
theorem bn199 {fd : FuncData} (F : FunD K d199.name d199.qual d199.params d199.body d199.scope (d199.dvs K) (d199.kws K) (He.fAd K d199.at_) fd) : Binds K fd ["_law_number", "_law_turn"] [] := FunD.bindsN F fun _ _ _ _ _ _ us hl => match us, hl with | [_, _], _ => rfl
theorem bn290 {fd : FuncData} (F : FunD K d290.name d290.qual d290.params d290.body d290.scope (d290.dvs K) (d290.kws K) (He.fAd K d290.at_) fd) : Binds K fd ["_law_script"] [] := FunD.bindsN F fun _ _ _ _ _ _ us hl => match us, hl with | [_], _ => rfl
theorem bn294 {fd : FuncData} (F : FunD K d294.name d294.qual d294.params d294.body d294.scope (d294.dvs K) (d294.kws K) (He.fAd K d294.at_) fd) : Binds K fd ["_law_store_here", "_law_many"] [] := FunD.bindsN F fun _ _ _ _ _ _ us hl => match us, hl with | [_, _], _ => rfl
theorem bn224 {fd : FuncData} (F : FunD K d224.name d224.qual d224.params d224.body d224.scope (d224.dvs K) (d224.kws K) (He.fAd K d224.at_) fd) : Binds K fd ["_law_store_here", "_law_row"] [] := FunD.bindsN F fun _ _ _ _ _ _ us hl => match us, hl with | [_, _], _ => rfl
theorem bn159 {fd : FuncData} (F : FunD K d159.name d159.qual d159.params d159.body d159.scope (d159.dvs K) (d159.kws K) (He.fAd K d159.at_) fd) : Binds K fd ["_law_left", "_law_right"] [] := FunD.bindsN F fun _ _ _ _ _ _ us hl => match us, hl with | [_, _], _ => rfl
theorem bn191 {fd : FuncData} (F : FunD K d191.name d191.qual d191.params d191.body d191.scope (d191.dvs K) (d191.kws K) (He.fAd K d191.at_) fd) : Binds K fd ["_law_top", "_law_bottom"] [] := FunD.bindsN F fun _ _ _ _ _ _ us hl => match us, hl with | [_, _], _ => rfl
theorem bn301 {fd : FuncData} (F : FunD K d301.name d301.qual d301.params d301.body d301.scope (d301.dvs K) (d301.kws K) (He.fAd K d301.at_) fd) : Binds K fd ["_law_left", "_law_right"] [] := FunD.bindsN F fun _ _ _ _ _ _ us hl => match us, hl with | [_, _], _ => rfl
theorem bn170 {fd : FuncData} (F : FunD K d170.name d170.qual d170.params d170.body d170.scope (d170.dvs K) (d170.kws K) (He.fAd K d170.at_) fd) : Binds K fd ["_law_told"] [] := FunD.bindsN F fun _ _ _ _ _ _ us hl => match us, hl with | [_], _ => rfl
theorem bn260 {fd : FuncData} (F : FunD K d260.name d260.qual d260.params d260.body d260.scope (d260.dvs K) (d260.kws K) (He.fAd K d260.at_) fd) : Binds K fd ["_law_told", "_law_due"] [] := FunD.bindsN F fun _ _ _ _ _ _ us hl => match us, hl with | [_, _], _ => rfl
theorem bn148 {fd : FuncData} (F : FunD K d148.name d148.qual d148.params d148.body d148.scope (d148.dvs K) (d148.kws K) (He.fAd K d148.at_) fd) : Binds K fd ["_law_thing"] [] := FunD.bindsN F fun _ _ _ _ _ _ us hl => match us, hl with | [_], _ => rfl
theorem bn315 {fd : FuncData} (F : FunD K d315.name d315.qual d315.params d315.body d315.scope (d315.dvs K) (d315.kws K) (He.fAd K d315.at_) fd) : Binds K fd ["_law_store_here", "_law_reach"] [] := FunD.bindsN F fun _ _ _ _ _ _ us hl => match us, hl with | [_, _], _ => rfl
theorem bn161 {fd : FuncData} (F : FunD K d161.name d161.qual d161.params d161.body d161.scope (d161.dvs K) (d161.kws K) (He.fAd K d161.at_) fd) : Binds K fd ["_law_store_here"] [] := FunD.bindsN F fun _ _ _ _ _ _ us hl => match us, hl with | [_], _ => rfl
theorem bn153 {fd : FuncData} (F : FunD K d153.name d153.qual d153.params d153.body d153.scope (d153.dvs K) (d153.kws K) (He.fAd K d153.at_) fd) : Binds K fd ["_law_store_here"] [] := FunD.bindsN F fun _ _ _ _ _ _ us hl => match us, hl with | [_], _ => rfl
theorem bn154 {fd : FuncData} (F : FunD K d154.name d154.qual d154.params d154.body d154.scope (d154.dvs K) (d154.kws K) (He.fAd K d154.at_) fd) : Binds K fd ["_law_store_here"] [] := FunD.bindsN F fun _ _ _ _ _ _ us hl => match us, hl with | [_], _ => rfl
theorem bn89 {fd : FuncData} (F : FunD K d89.name d89.qual d89.params d89.body d89.scope (d89.dvs K) (d89.kws K) (He.fAd K d89.at_) fd) : Binds K fd ["_law_store_here"] [] := FunD.bindsN F fun _ _ _ _ _ _ us hl => match us, hl with | [_], _ => rfl
theorem bn155 {fd : FuncData} (F : FunD K d155.name d155.qual d155.params d155.body d155.scope (d155.dvs K) (d155.kws K) (He.fAd K d155.at_) fd) : Binds K fd ["_law_value"] [] := FunD.bindsN F fun _ _ _ _ _ _ us hl => match us, hl with | [_], _ => rfl
theorem bn190 {fd : FuncData} (F : FunD K d190.name d190.qual d190.params d190.body d190.scope (d190.dvs K) (d190.kws K) (He.fAd K d190.at_) fd) : Binds K fd ["_law_store_here", "_law_value"] [] := FunD.bindsN F fun _ _ _ _ _ _ us hl => match us, hl with | [_, _], _ => rfl
theorem bn248 {fd : FuncData} (F : FunD K d248.name d248.qual d248.params d248.body d248.scope (d248.dvs K) (d248.kws K) (He.fAd K d248.at_) fd) : Binds K fd ["_law_call"] [] := FunD.bindsN F fun _ _ _ _ _ _ us hl => match us, hl with | [_], _ => rfl
theorem bn146 {fd : FuncData} (F : FunD K d146.name d146.qual d146.params d146.body d146.scope (d146.dvs K) (d146.kws K) (He.fAd K d146.at_) fd) : Binds K fd ["_law_store_here", "_law_many"] [] := FunD.bindsN F fun _ _ _ _ _ _ us hl => match us, hl with | [_, _], _ => rfl
theorem bn114 {fd : FuncData} (F : FunD K d114.name d114.qual d114.params d114.body d114.scope (d114.dvs K) (d114.kws K) (He.fAd K d114.at_) fd) : Binds K fd ["_law_store_here", "_law_word"] [] := FunD.bindsN F fun _ _ _ _ _ _ us hl => match us, hl with | [_, _], _ => rfl
theorem bn321 {fd : FuncData} (F : FunD K d321.name d321.qual d321.params d321.body d321.scope (d321.dvs K) (d321.kws K) (He.fAd K d321.at_) fd) : Binds K fd ["_law_store_here"] [] := FunD.bindsN F fun _ _ _ _ _ _ us hl => match us, hl with | [_], _ => rfl
theorem bn165 {fd : FuncData} (F : FunD K d165.name d165.qual d165.params d165.body d165.scope (d165.dvs K) (d165.kws K) (He.fAd K d165.at_) fd) : Binds K fd ["_law_word"] [] := FunD.bindsN F fun _ _ _ _ _ _ us hl => match us, hl with | [_], _ => rfl
theorem bn156 {fd : FuncData} (F : FunD K d156.name d156.qual d156.params d156.body d156.scope (d156.dvs K) (d156.kws K) (He.fAd K d156.at_) fd) : Binds K fd ["_law_word"] [] := FunD.bindsN F fun _ _ _ _ _ _ us hl => match us, hl with | [_], _ => rfl
theorem bn331 {fd : FuncData} (F : FunD K d331.name d331.qual d331.params d331.body d331.scope (d331.dvs K) (d331.kws K) (He.fAd K d331.at_) fd) : Binds K fd ["_law_value", "_law_many"] [] := FunD.bindsN F fun _ _ _ _ _ _ us hl => match us, hl with | [_, _], _ => rfl
theorem bn251 {fd : FuncData} (F : FunD K d251.name d251.qual d251.params d251.body d251.scope (d251.dvs K) (d251.kws K) (He.fAd K d251.at_) fd) : Binds K fd ["_law_store_here"] [] := FunD.bindsN F fun _ _ _ _ _ _ us hl => match us, hl with | [_], _ => rfl
theorem bn445 {fd : FuncData} (F : FunD K d445.name d445.qual d445.params d445.body d445.scope (d445.dvs K) (d445.kws K) (He.fAd K d445.at_) fd) : Binds K fd ["_law_script"] [] := FunD.bindsN F fun _ _ _ _ _ _ us hl => match us, hl with | [_], _ => rfl
theorem sd (c : He.SaysX fa fn [] tf ex w h K) : He.SaysD fa fn K := congrArg Prod.fst c.t
theorem exA (c : He.SaysX fa fn [] tf ex w h K) : allB clT nmT glD blT xl K = true := by
  have z := c.more
  unfold ex at z
  exact (He.ba z).1
theorem ox0 (c : He.SaysX fa fn [] tf ex w h K) : OexF K (He.ga K "BadValue") (He.fAd K (("BadValue" : Str), some "__init__")) := by
  have z := c.more
  unfold ex at z
  exact oexB_ok (He.ba z).2
theorem rz0 (X : K.In base) (G : base.Ns mainGlobals mg) (c : He.SaysX fa fn [] tf ex w h K) : RzF (fx K) K mg "BadValue" 0 := by
  have O := ox0 c
  obtain ⟨fd, F⟩ := (sd c).def_ 37 (d := di0) rfl
  obtain ⟨oc, od, dV, kV, doc, pm, an, cdv, ct, osl, e, lk, hcd, hD, _⟩ := F.ex
  have e0 : dV = .none := by
    rcases hD with ⟨_, z⟩ | ⟨z, _⟩
    · exact z
    · exact absurd rfl z
  subst e e0
  have xd := (He.ba (He.ba (exA c)).1).2
  have nf := (He.ba (He.ba (He.ba (List.all_eq_true.mp xd _ (show (⟨0, "BadValue", [0, 59], some 0⟩ : XD) ∈ xl from List.mem_of_getElem? (i := 1) rfl))).2).2).2
  exact XBadValue.rz (fx := fx K) ⟨O.cls, O.sa, He.eqO_ok nf, O.iC, O.tC, O.kC, O.exC, O.tyC, oc, od, kV, doc, pm, an, cdv, ct, osl, _, _, _, _, _, _, lk, hcd⟩ (He.glo_ok X G (List.all_eq_true.mp (He.ba (He.ba (He.ba (exA c)).2).2).1 (0, ("BadValue" : Str)) (by decide))) rfl
theorem ra248 (X : K.In base) (G : base.Ns mainGlobals mg) (c : He.SaysX fa fn [] tf ex w h K) (cc : Nat → List D → M D) : RaF K mg tb (mkC pg cc) 248 "_law_refusal" := by
  obtain ⟨fd, F⟩ := (sd c).def_ 28 (d := d248) rfl
  exact raF_of F (He.glo_ok X G ((sd c).fact 28 (f := .glo "_law_refusal") rfl)) (bn248 F) sc248 rfl (.inl (by rfl)) (by decide) (by decide) ck248 rfl
theorem stF (X : K.In base) (G : base.Ns mainGlobals mg) (c : He.SaysX fa fn [] tf ex w h K) : StF P w K mg base (fx K) tb pg (TT K) :=
  stF_of X G (exA c) (by decide +kernel) (by decide +kernel) (fun i x e hr => by
    have m : i ∈ r1L := List.contains_iff_mem.mp hr
    simp only [r1L, List.mem_cons, List.not_mem_nil, or_false] at m
    subst m
    cases e
    exact rz0 X G c) (fun i x e => by
    have m := lookup_pair e
    simp only [lmT, List.mem_cons, List.not_mem_nil, or_false, Prod.mk.injEq] at m
    obtain ⟨rfl, rfl⟩ := m
    exact ra248 X G c)
theorem pr528 (X : K.In base) (G : base.Ns mainGlobals mg) (c : He.SaysX fa fn [] tf ex w h K) (TB : ∀ p ∈ tf.map (He.cT K), LamX.TabB base mg p.1 p.2) : PrF P w K mg base (fx K) tb pg (TT K) 528 "whole_number" := by
  obtain ⟨fd, F⟩ := (sd c).def_ 0 (d := d528) rfl
  exact prF_of (d := d528) (b := false) F (He.glo_ok X G ((sd c).fact 0 (f := .glo "whole_number") rfl)) sc528 rfl ck528 (fun z => by cases z) (fun j hj => by
    have e : j = 0 := by
      have hj : (j == 0 || dfJ.contains (528, j)) = true := hj
      simp only [dfJ, List.contains_cons, List.contains_nil, Bool.or_eq_true, beq_iff_eq, Prod.mk.injEq, Bool.or_false] at hj
      omega
    subst e
    exact ⟨[], [], bn528 F, .nil, fun _ => rfl⟩)
theorem pr369 (X : K.In base) (G : base.Ns mainGlobals mg) (c : He.SaysX fa fn [] tf ex w h K) (TB : ∀ p ∈ tf.map (He.cT K), LamX.TabB base mg p.1 p.2) : PrF P w K mg base (fx K) tb pg (TT K) 369 "common_divisor" := by
  obtain ⟨fd, F⟩ := (sd c).def_ 1 (d := d369) rfl
  exact prF_of (d := d369) (b := false) F (He.glo_ok X G ((sd c).fact 1 (f := .glo "common_divisor") rfl)) sc369 rfl ck369 (fun z => by cases z) (fun j hj => by
    have e : j = 0 := by
      have hj : (j == 0 || dfJ.contains (369, j)) = true := hj
      simp only [dfJ, List.contains_cons, List.contains_nil, Bool.or_eq_true, beq_iff_eq, Prod.mk.injEq, Bool.or_false] at hj
      omega
    subst e
    exact ⟨[], [], bn369 F, .nil, fun _ => rfl⟩)
theorem pr455 (X : K.In base) (G : base.Ns mainGlobals mg) (c : He.SaysX fa fn [] tf ex w h K) (TB : ∀ p ∈ tf.map (He.cT K), LamX.TabB base mg p.1 p.2) : PrF P w K mg base (fx K) tb pg (TT K) 455 "lowest" := by
  obtain ⟨fd, F⟩ := (sd c).def_ 2 (d := d455) rfl
  exact prF_of (d := d455) (b := false) F (He.glo_ok X G ((sd c).fact 2 (f := .glo "lowest") rfl)) sc455 rfl ck455 (fun z => by cases z) (fun j hj => by
    have e : j = 0 := by
      have hj : (j == 0 || dfJ.contains (455, j)) = true := hj
      simp only [dfJ, List.contains_cons, List.contains_nil, Bool.or_eq_true, beq_iff_eq, Prod.mk.injEq, Bool.or_false] at hj
      omega
    subst e
    exact ⟨[], [], bn455 F, .nil, fun _ => rfl⟩)
theorem pr405 (X : K.In base) (G : base.Ns mainGlobals mg) (c : He.SaysX fa fn [] tf ex w h K) (TB : ∀ p ∈ tf.map (He.cT K), LamX.TabB base mg p.1 p.2) : PrF P w K mg base (fx K) tb pg (TT K) 405 "fraction" := by
  obtain ⟨fd, F⟩ := (sd c).def_ 3 (d := d405) rfl
  exact prF_of (d := d405) (b := false) F (He.glo_ok X G ((sd c).fact 3 (f := .glo "fraction") rfl)) sc405 rfl ck405 (fun z => by cases z) (fun j hj => by
    have e : j = 0 ∨ j = 1 := by
      have hj : (j == 0 || dfJ.contains (405, j)) = true := hj
      simp only [dfJ, List.contains_cons, List.contains_nil, Bool.or_eq_true, beq_iff_eq, Prod.mk.injEq, Bool.or_false] at hj
      omega
    rcases e with rfl | rfl
    · exact ⟨[], [], bn405 F, .nil, fun _ => rfl⟩
    · exact bn405_1 F)
theorem pr433 (X : K.In base) (G : base.Ns mainGlobals mg) (c : He.SaysX fa fn [] tf ex w h K) (TB : ∀ p ∈ tf.map (He.cT K), LamX.TabB base mg p.1 p.2) : PrF P w K mg base (fx K) tb pg (TT K) 433 "is_fraction" := by
  obtain ⟨fd, F⟩ := (sd c).def_ 4 (d := d433) rfl
  exact prF_of (d := d433) (b := false) F (He.glo_ok X G ((sd c).fact 4 (f := .glo "is_fraction") rfl)) sc433 rfl ck433 (fun z => by cases z) (fun j hj => by
    have e : j = 0 := by
      have hj : (j == 0 || dfJ.contains (433, j)) = true := hj
      simp only [dfJ, List.contains_cons, List.contains_nil, Bool.or_eq_true, beq_iff_eq, Prod.mk.injEq, Bool.or_false] at hj
      omega
    subst e
    exact ⟨[], [], bn433 F, .nil, fun _ => rfl⟩)
theorem pr350 (X : K.In base) (G : base.Ns mainGlobals mg) (c : He.SaysX fa fn [] tf ex w h K) (TB : ∀ p ∈ tf.map (He.cT K), LamX.TabB base mg p.1 p.2) : PrF P w K mg base (fx K) tb pg (TT K) 350 "check_pair" := by
  obtain ⟨fd, F⟩ := (sd c).def_ 5 (d := d350) rfl
  exact prF_of (d := d350) (b := false) F (He.glo_ok X G ((sd c).fact 5 (f := .glo "check_pair") rfl)) sc350 rfl ck350 (fun z => by cases z) (fun j hj => by
    have e : j = 0 := by
      have hj : (j == 0 || dfJ.contains (350, j)) = true := hj
      simp only [dfJ, List.contains_cons, List.contains_nil, Bool.or_eq_true, beq_iff_eq, Prod.mk.injEq, Bool.or_false] at hj
      omega
    subst e
    exact ⟨[], [], bn350 F, .nil, fun _ => rfl⟩)
theorem pr522 (X : K.In base) (G : base.Ns mainGlobals mg) (c : He.SaysX fa fn [] tf ex w h K) (TB : ∀ p ∈ tf.map (He.cT K), LamX.TabB base mg p.1 p.2) : PrF P w K mg base (fx K) tb pg (TT K) 522 "times" := by
  obtain ⟨fd, F⟩ := (sd c).def_ 6 (d := d522) rfl
  exact prF_of (d := d522) (b := false) F (He.glo_ok X G ((sd c).fact 6 (f := .glo "times") rfl)) sc522 rfl ck522 (fun z => by cases z) (fun j hj => by
    have e : j = 0 := by
      have hj : (j == 0 || dfJ.contains (522, j)) = true := hj
      simp only [dfJ, List.contains_cons, List.contains_nil, Bool.or_eq_true, beq_iff_eq, Prod.mk.injEq, Bool.or_false] at hj
      omega
    subst e
    exact ⟨[], [], bn522 F, .nil, fun _ => rfl⟩)
theorem pr407 (X : K.In base) (G : base.Ns mainGlobals mg) (c : He.SaysX fa fn [] tf ex w h K) (TB : ∀ p ∈ tf.map (He.cT K), LamX.TabB base mg p.1 p.2) : PrF P w K mg base (fx K) tb pg (TT K) 407 "fraction_word" := by
  obtain ⟨fd, F⟩ := (sd c).def_ 7 (d := d407) rfl
  exact prF_of (d := d407) (b := false) F (He.glo_ok X G ((sd c).fact 7 (f := .glo "fraction_word") rfl)) sc407 rfl ck407 (fun z => by cases z) (fun j hj => by
    have e : j = 0 := by
      have hj : (j == 0 || dfJ.contains (407, j)) = true := hj
      simp only [dfJ, List.contains_cons, List.contains_nil, Bool.or_eq_true, beq_iff_eq, Prod.mk.injEq, Bool.or_false] at hj
      omega
    subst e
    exact ⟨[], [], bn407 F, .nil, fun _ => rfl⟩)
theorem pr385 (X : K.In base) (G : base.Ns mainGlobals mg) (c : He.SaysX fa fn [] tf ex w h K) (TB : ∀ p ∈ tf.map (He.cT K), LamX.TabB base mg p.1 p.2) : PrF P w K mg base (fx K) tb pg (TT K) 385 "digits_fit" := by
  obtain ⟨fd, F⟩ := (sd c).def_ 8 (d := d385) rfl
  exact prF_of (d := d385) (b := false) F (He.glo_ok X G ((sd c).fact 8 (f := .glo "digits_fit") rfl)) sc385 rfl ck385 (fun z => by cases z) (fun j hj => by
    have e : j = 0 := by
      have hj : (j == 0 || dfJ.contains (385, j)) = true := hj
      simp only [dfJ, List.contains_cons, List.contains_nil, Bool.or_eq_true, beq_iff_eq, Prod.mk.injEq, Bool.or_false] at hj
      omega
    subst e
    exact ⟨[], [], bn385 F, .nil, fun _ => rfl⟩)
theorem pr429 (X : K.In base) (G : base.Ns mainGlobals mg) (c : He.SaysX fa fn [] tf ex w h K) (TB : ∀ p ∈ tf.map (He.cT K), LamX.TabB base mg p.1 p.2) : PrF P w K mg base (fx K) tb pg (TT K) 429 "integer_fits" := by
  obtain ⟨fd, F⟩ := (sd c).def_ 9 (d := d429) rfl
  exact prF_of (d := d429) (b := false) F (He.glo_ok X G ((sd c).fact 9 (f := .glo "integer_fits") rfl)) sc429 rfl ck429 (fun z => by cases z) (fun j hj => by
    have e : j = 0 := by
      have hj : (j == 0 || dfJ.contains (429, j)) = true := hj
      simp only [dfJ, List.contains_cons, List.contains_nil, Bool.or_eq_true, beq_iff_eq, Prod.mk.injEq, Bool.or_false] at hj
      omega
    subst e
    exact ⟨[], [], bn429 F, .nil, fun _ => rfl⟩)
theorem pr406 (X : K.In base) (G : base.Ns mainGlobals mg) (c : He.SaysX fa fn [] tf ex w h K) (TB : ∀ p ∈ tf.map (He.cT K), LamX.TabB base mg p.1 p.2) : PrF P w K mg base (fx K) tb pg (TT K) 406 "fraction_of" := by
  obtain ⟨fd, F⟩ := (sd c).def_ 10 (d := d406) rfl
  exact prF_of (d := d406) (b := false) F (He.glo_ok X G ((sd c).fact 10 (f := .glo "fraction_of") rfl)) sc406 rfl ck406 (fun z => by cases z) (fun j hj => by
    have e : j = 0 := by
      have hj : (j == 0 || dfJ.contains (406, j)) = true := hj
      simp only [dfJ, List.contains_cons, List.contains_nil, Bool.or_eq_true, beq_iff_eq, Prod.mk.injEq, Bool.or_false] at hj
      omega
    subst e
    exact ⟨[], [], bn406 F, .nil, fun _ => rfl⟩)
theorem pr199 (X : K.In base) (G : base.Ns mainGlobals mg) (c : He.SaysX fa fn [] tf ex w h K) (TB : ∀ p ∈ tf.map (He.cT K), LamX.TabB base mg p.1 p.2) : PrF P w K mg base (fx K) tb pg (TT K) 199 "_law_mixed" := by
  obtain ⟨fd, F⟩ := (sd c).def_ 11 (d := d199) rfl
  exact prF_of (d := d199) (b := false) F (He.glo_ok X G ((sd c).fact 11 (f := .glo "_law_mixed") rfl)) sc199 rfl ck199 (fun z => by cases z) (fun j hj => by
    have e : j = 0 := by
      have hj : (j == 0 || dfJ.contains (199, j)) = true := hj
      simp only [dfJ, List.contains_cons, List.contains_nil, Bool.or_eq_true, beq_iff_eq, Prod.mk.injEq, Bool.or_false] at hj
      omega
    subst e
    exact ⟨[], [], bn199 F, .nil, fun _ => rfl⟩)
theorem pr290 (X : K.In base) (G : base.Ns mainGlobals mg) (c : He.SaysX fa fn [] tf ex w h K) (TB : ∀ p ∈ tf.map (He.cT K), LamX.TabB base mg p.1 p.2) : PrF P w K mg base (fx K) tb pg (TT K) 290 "_law_store" := by
  obtain ⟨fd, F⟩ := (sd c).def_ 12 (d := d290) rfl
  exact prF_of (d := d290) (b := false) F (He.glo_ok X G ((sd c).fact 12 (f := .glo "_law_store") rfl)) sc290 rfl ck290 (fun z => by cases z) (fun j hj => by
    have e : j = 0 := by
      have hj : (j == 0 || dfJ.contains (290, j)) = true := hj
      simp only [dfJ, List.contains_cons, List.contains_nil, Bool.or_eq_true, beq_iff_eq, Prod.mk.injEq, Bool.or_false] at hj
      omega
    subst e
    exact ⟨[], [], bn290 F, .nil, fun _ => rfl⟩)
theorem pr294 (X : K.In base) (G : base.Ns mainGlobals mg) (c : He.SaysX fa fn [] tf ex w h K) (TB : ∀ p ∈ tf.map (He.cT K), LamX.TabB base mg p.1 p.2) : PrF P w K mg base (fx K) tb pg (TT K) 294 "_law_take" := by
  obtain ⟨fd, F⟩ := (sd c).def_ 13 (d := d294) rfl
  exact prF_of (d := d294) (b := false) F (He.glo_ok X G ((sd c).fact 13 (f := .glo "_law_take") rfl)) sc294 rfl ck294 (fun z => by cases z) (fun j hj => by
    have e : j = 0 := by
      have hj : (j == 0 || dfJ.contains (294, j)) = true := hj
      simp only [dfJ, List.contains_cons, List.contains_nil, Bool.or_eq_true, beq_iff_eq, Prod.mk.injEq, Bool.or_false] at hj
      omega
    subst e
    exact ⟨[], [], bn294 F, .nil, fun _ => rfl⟩)
theorem pr224 (X : K.In base) (G : base.Ns mainGlobals mg) (c : He.SaysX fa fn [] tf ex w h K) (TB : ∀ p ∈ tf.map (He.cT K), LamX.TabB base mg p.1 p.2) : PrF P w K mg base (fx K) tb pg (TT K) 224 "_law_pick" := by
  obtain ⟨fd, F⟩ := (sd c).def_ 14 (d := d224) rfl
  exact prF_of (d := d224) (b := false) F (He.glo_ok X G ((sd c).fact 14 (f := .glo "_law_pick") rfl)) sc224 rfl ck224 (fun z => by cases z) (fun j hj => by
    have e : j = 0 := by
      have hj : (j == 0 || dfJ.contains (224, j)) = true := hj
      simp only [dfJ, List.contains_cons, List.contains_nil, Bool.or_eq_true, beq_iff_eq, Prod.mk.injEq, Bool.or_false] at hj
      omega
    subst e
    exact ⟨[], [], bn224 F, .nil, fun _ => rfl⟩)
theorem pr159 (X : K.In base) (G : base.Ns mainGlobals mg) (c : He.SaysX fa fn [] tf ex w h K) (TB : ∀ p ∈ tf.map (He.cT K), LamX.TabB base mg p.1 p.2) : PrF P w K mg base (fx K) tb pg (TT K) 159 "_law_gcd" := by
  obtain ⟨fd, F⟩ := (sd c).def_ 15 (d := d159) rfl
  exact prF_of (d := d159) (b := false) F (He.glo_ok X G ((sd c).fact 15 (f := .glo "_law_gcd") rfl)) sc159 rfl ck159 (fun z => by cases z) (fun j hj => by
    have e : j = 0 := by
      have hj : (j == 0 || dfJ.contains (159, j)) = true := hj
      simp only [dfJ, List.contains_cons, List.contains_nil, Bool.or_eq_true, beq_iff_eq, Prod.mk.injEq, Bool.or_false] at hj
      omega
    subst e
    exact ⟨[], [], bn159 F, .nil, fun _ => rfl⟩)
theorem pr191 (X : K.In base) (G : base.Ns mainGlobals mg) (c : He.SaysX fa fn [] tf ex w h K) (TB : ∀ p ∈ tf.map (He.cT K), LamX.TabB base mg p.1 p.2) : PrF P w K mg base (fx K) tb pg (TT K) 191 "_law_lowest" := by
  obtain ⟨fd, F⟩ := (sd c).def_ 16 (d := d191) rfl
  exact prF_of (d := d191) (b := false) F (He.glo_ok X G ((sd c).fact 16 (f := .glo "_law_lowest") rfl)) sc191 rfl ck191 (fun z => by cases z) (fun j hj => by
    have e : j = 0 := by
      have hj : (j == 0 || dfJ.contains (191, j)) = true := hj
      simp only [dfJ, List.contains_cons, List.contains_nil, Bool.or_eq_true, beq_iff_eq, Prod.mk.injEq, Bool.or_false] at hj
      omega
    subst e
    exact ⟨[], [], bn191 F, .nil, fun _ => rfl⟩)
theorem pr301 (X : K.In base) (G : base.Ns mainGlobals mg) (c : He.SaysX fa fn [] tf ex w h K) (TB : ∀ p ∈ tf.map (He.cT K), LamX.TabB base mg p.1 p.2) : PrF P w K mg base (fx K) tb pg (TT K) 301 "_law_times" := by
  obtain ⟨fd, F⟩ := (sd c).def_ 17 (d := d301) rfl
  exact prF_of (d := d301) (b := false) F (He.glo_ok X G ((sd c).fact 17 (f := .glo "_law_times") rfl)) sc301 rfl ck301 (fun z => by cases z) (fun j hj => by
    have e : j = 0 := by
      have hj : (j == 0 || dfJ.contains (301, j)) = true := hj
      simp only [dfJ, List.contains_cons, List.contains_nil, Bool.or_eq_true, beq_iff_eq, Prod.mk.injEq, Bool.or_false] at hj
      omega
    subst e
    exact ⟨[], [], bn301 F, .nil, fun _ => rfl⟩)
theorem pr170 (X : K.In base) (G : base.Ns mainGlobals mg) (c : He.SaysX fa fn [] tf ex w h K) (TB : ∀ p ∈ tf.map (He.cT K), LamX.TabB base mg p.1 p.2) : PrF P w K mg base (fx K) tb pg (TT K) 170 "_law_is_whole" := by
  obtain ⟨fd, F⟩ := (sd c).def_ 18 (d := d170) rfl
  exact prF_of (d := d170) (b := false) F (He.glo_ok X G ((sd c).fact 18 (f := .glo "_law_is_whole") rfl)) sc170 rfl ck170 (fun z => by cases z) (fun j hj => by
    have e : j = 0 := by
      have hj : (j == 0 || dfJ.contains (170, j)) = true := hj
      simp only [dfJ, List.contains_cons, List.contains_nil, Bool.or_eq_true, beq_iff_eq, Prod.mk.injEq, Bool.or_false] at hj
      omega
    subst e
    exact ⟨[], [], bn170 F, .nil, fun _ => rfl⟩)
theorem pr260 (X : K.In base) (G : base.Ns mainGlobals mg) (c : He.SaysX fa fn [] tf ex w h K) (TB : ∀ p ∈ tf.map (He.cT K), LamX.TabB base mg p.1 p.2) : PrF P w K mg base (fx K) tb pg (TT K) 260 "_law_same" := by
  obtain ⟨fd, F⟩ := (sd c).def_ 19 (d := d260) rfl
  exact prF_of (d := d260) (b := false) F (He.glo_ok X G ((sd c).fact 19 (f := .glo "_law_same") rfl)) sc260 rfl ck260 (fun z => by cases z) (fun j hj => by
    have e : j = 0 := by
      have hj : (j == 0 || dfJ.contains (260, j)) = true := hj
      simp only [dfJ, List.contains_cons, List.contains_nil, Bool.or_eq_true, beq_iff_eq, Prod.mk.injEq, Bool.or_false] at hj
      omega
    subst e
    exact ⟨[], [], bn260 F, .nil, fun _ => rfl⟩)
theorem pr148 (X : K.In base) (G : base.Ns mainGlobals mg) (c : He.SaysX fa fn [] tf ex w h K) (TB : ∀ p ∈ tf.map (He.cT K), LamX.TabB base mg p.1 p.2) : PrF P w K mg base (fx K) tb pg (TT K) 148 "_law_fits" := by
  obtain ⟨fd, F⟩ := (sd c).def_ 20 (d := d148) rfl
  exact prF_of (d := d148) (b := false) F (He.glo_ok X G ((sd c).fact 20 (f := .glo "_law_fits") rfl)) sc148 rfl ck148 (fun z => by cases z) (fun j hj => by
    have e : j = 0 := by
      have hj : (j == 0 || dfJ.contains (148, j)) = true := hj
      simp only [dfJ, List.contains_cons, List.contains_nil, Bool.or_eq_true, beq_iff_eq, Prod.mk.injEq, Bool.or_false] at hj
      omega
    subst e
    exact ⟨[], [], bn148 F, .nil, fun _ => rfl⟩)
theorem pr315 (X : K.In base) (G : base.Ns mainGlobals mg) (c : He.SaysX fa fn [] tf ex w h K) (TB : ∀ p ∈ tf.map (He.cT K), LamX.TabB base mg p.1 p.2) : PrF P w K mg base (fx K) tb pg (TT K) 315 "_law_whole" := by
  obtain ⟨fd, F⟩ := (sd c).def_ 21 (d := d315) rfl
  exact prF_of (d := d315) (b := false) F (He.glo_ok X G ((sd c).fact 21 (f := .glo "_law_whole") rfl)) sc315 rfl ck315 (fun z => by cases z) (fun j hj => by
    have e : j = 0 := by
      have hj : (j == 0 || dfJ.contains (315, j)) = true := hj
      simp only [dfJ, List.contains_cons, List.contains_nil, Bool.or_eq_true, beq_iff_eq, Prod.mk.injEq, Bool.or_false] at hj
      omega
    subst e
    exact ⟨[], [], bn315 F, .nil, fun _ => rfl⟩)
theorem pr161 (X : K.In base) (G : base.Ns mainGlobals mg) (c : He.SaysX fa fn [] tf ex w h K) (TB : ∀ p ∈ tf.map (He.cT K), LamX.TabB base mg p.1 p.2) : PrF P w K mg base (fx K) tb pg (TT K) 161 "_law_great" := by
  obtain ⟨fd, F⟩ := (sd c).def_ 22 (d := d161) rfl
  exact prF_of (d := d161) (b := false) F (He.glo_ok X G ((sd c).fact 22 (f := .glo "_law_great") rfl)) sc161 rfl ck161 (fun z => by cases z) (fun j hj => by
    have e : j = 0 := by
      have hj : (j == 0 || dfJ.contains (161, j)) = true := hj
      simp only [dfJ, List.contains_cons, List.contains_nil, Bool.or_eq_true, beq_iff_eq, Prod.mk.injEq, Bool.or_false] at hj
      omega
    subst e
    exact ⟨[], [], bn161 F, .nil, fun _ => rfl⟩)
theorem pr153 (X : K.In base) (G : base.Ns mainGlobals mg) (c : He.SaysX fa fn [] tf ex w h K) (TB : ∀ p ∈ tf.map (He.cT K), LamX.TabB base mg p.1 p.2) : PrF P w K mg base (fx K) tb pg (TT K) 153 "_law_frac" := by
  obtain ⟨fd, F⟩ := (sd c).def_ 23 (d := d153) rfl
  exact prF_of (d := d153) (b := false) F (He.glo_ok X G ((sd c).fact 23 (f := .glo "_law_frac") rfl)) sc153 rfl ck153 (fun z => by cases z) (fun j hj => by
    have e : j = 0 := by
      have hj : (j == 0 || dfJ.contains (153, j)) = true := hj
      simp only [dfJ, List.contains_cons, List.contains_nil, Bool.or_eq_true, beq_iff_eq, Prod.mk.injEq, Bool.or_false] at hj
      omega
    subst e
    exact ⟨[], [], bn153 F, .nil, fun _ => rfl⟩)
theorem pr154 (X : K.In base) (G : base.Ns mainGlobals mg) (c : He.SaysX fa fn [] tf ex w h K) (TB : ∀ p ∈ tf.map (He.cT K), LamX.TabB base mg p.1 p.2) : PrF P w K mg base (fx K) tb pg (TT K) 154 "_law_frac_wide" := by
  obtain ⟨fd, F⟩ := (sd c).def_ 24 (d := d154) rfl
  exact prF_of (d := d154) (b := false) F (He.glo_ok X G ((sd c).fact 24 (f := .glo "_law_frac_wide") rfl)) sc154 rfl ck154 (fun z => by cases z) (fun j hj => by
    have e : j = 0 := by
      have hj : (j == 0 || dfJ.contains (154, j)) = true := hj
      simp only [dfJ, List.contains_cons, List.contains_nil, Bool.or_eq_true, beq_iff_eq, Prod.mk.injEq, Bool.or_false] at hj
      omega
    subst e
    exact ⟨[], [], bn154 F, .nil, fun _ => rfl⟩)
theorem pr89 (X : K.In base) (G : base.Ns mainGlobals mg) (c : He.SaysX fa fn [] tf ex w h K) (TB : ∀ p ∈ tf.map (He.cT K), LamX.TabB base mg p.1 p.2) : PrF P w K mg base (fx K) tb pg (TT K) 89 "_law_bad_frac" := by
  obtain ⟨fd, F⟩ := (sd c).def_ 25 (d := d89) rfl
  exact prF_of (d := d89) (b := false) F (He.glo_ok X G ((sd c).fact 25 (f := .glo "_law_bad_frac") rfl)) sc89 rfl ck89 (fun z => by cases z) (fun j hj => by
    have e : j = 0 := by
      have hj : (j == 0 || dfJ.contains (89, j)) = true := hj
      simp only [dfJ, List.contains_cons, List.contains_nil, Bool.or_eq_true, beq_iff_eq, Prod.mk.injEq, Bool.or_false] at hj
      omega
    subst e
    exact ⟨[], [], bn89 F, .nil, fun _ => rfl⟩)
theorem pr155 (X : K.In base) (G : base.Ns mainGlobals mg) (c : He.SaysX fa fn [] tf ex w h K) (TB : ∀ p ∈ tf.map (He.cT K), LamX.TabB base mg p.1 p.2) : PrF P w K mg base (fx K) tb pg (TT K) 155 "_law_frac_word" := by
  obtain ⟨fd, F⟩ := (sd c).def_ 26 (d := d155) rfl
  exact prF_of (d := d155) (b := false) F (He.glo_ok X G ((sd c).fact 26 (f := .glo "_law_frac_word") rfl)) sc155 rfl ck155 (fun z => by cases z) (fun j hj => by
    have e : j = 0 := by
      have hj : (j == 0 || dfJ.contains (155, j)) = true := hj
      simp only [dfJ, List.contains_cons, List.contains_nil, Bool.or_eq_true, beq_iff_eq, Prod.mk.injEq, Bool.or_false] at hj
      omega
    subst e
    exact ⟨[], [], bn155 F, .nil, fun _ => rfl⟩)
theorem pr190 (X : K.In base) (G : base.Ns mainGlobals mg) (c : He.SaysX fa fn [] tf ex w h K) (TB : ∀ p ∈ tf.map (He.cT K), LamX.TabB base mg p.1 p.2) : PrF P w K mg base (fx K) tb pg (TT K) 190 "_law_loose_word" := by
  obtain ⟨fd, F⟩ := (sd c).def_ 27 (d := d190) rfl
  exact prF_of (d := d190) (b := false) F (He.glo_ok X G ((sd c).fact 27 (f := .glo "_law_loose_word") rfl)) sc190 rfl ck190 (fun z => by cases z) (fun j hj => by
    have e : j = 0 := by
      have hj : (j == 0 || dfJ.contains (190, j)) = true := hj
      simp only [dfJ, List.contains_cons, List.contains_nil, Bool.or_eq_true, beq_iff_eq, Prod.mk.injEq, Bool.or_false] at hj
      omega
    subst e
    exact ⟨[], [], bn190 F, .nil, fun _ => rfl⟩)
theorem pr146 (X : K.In base) (G : base.Ns mainGlobals mg) (c : He.SaysX fa fn [] tf ex w h K) (TB : ∀ p ∈ tf.map (He.cT K), LamX.TabB base mg p.1 p.2) : PrF P w K mg base (fx K) tb pg (TT K) 146 "_law_figures" := by
  obtain ⟨fd, F⟩ := (sd c).def_ 29 (d := d146) rfl
  exact prF_of (d := d146) (b := false) F (He.glo_ok X G ((sd c).fact 29 (f := .glo "_law_figures") rfl)) sc146 rfl ck146 (fun z => by cases z) (fun j hj => by
    have e : j = 0 := by
      have hj : (j == 0 || dfJ.contains (146, j)) = true := hj
      simp only [dfJ, List.contains_cons, List.contains_nil, Bool.or_eq_true, beq_iff_eq, Prod.mk.injEq, Bool.or_false] at hj
      omega
    subst e
    exact ⟨[], [], bn146 F, .nil, fun _ => rfl⟩)
theorem pr114 (X : K.In base) (G : base.Ns mainGlobals mg) (c : He.SaysX fa fn [] tf ex w h K) (TB : ∀ p ∈ tf.map (He.cT K), LamX.TabB base mg p.1 p.2) : PrF P w K mg base (fx K) tb pg (TT K) 114 "_law_changed" := by
  obtain ⟨fd, F⟩ := (sd c).def_ 30 (d := d114) rfl
  exact prF_of (d := d114) (b := false) F (He.glo_ok X G ((sd c).fact 30 (f := .glo "_law_changed") rfl)) sc114 rfl ck114 (fun z => by cases z) (fun j hj => by
    have e : j = 0 := by
      have hj : (j == 0 || dfJ.contains (114, j)) = true := hj
      simp only [dfJ, List.contains_cons, List.contains_nil, Bool.or_eq_true, beq_iff_eq, Prod.mk.injEq, Bool.or_false] at hj
      omega
    subst e
    exact ⟨[], [], bn114 F, .nil, fun _ => rfl⟩)
theorem pr321 (X : K.In base) (G : base.Ns mainGlobals mg) (c : He.SaysX fa fn [] tf ex w h K) (TB : ∀ p ∈ tf.map (He.cT K), LamX.TabB base mg p.1 p.2) : PrF P w K mg base (fx K) tb pg (TT K) 321 "_law_word_drawn" := by
  obtain ⟨fd, F⟩ := (sd c).def_ 31 (d := d321) rfl
  exact prF_of (d := d321) (b := false) F (He.glo_ok X G ((sd c).fact 31 (f := .glo "_law_word_drawn") rfl)) sc321 rfl ck321 (fun z => by cases z) (fun j hj => by
    have e : j = 0 := by
      have hj : (j == 0 || dfJ.contains (321, j)) = true := hj
      simp only [dfJ, List.contains_cons, List.contains_nil, Bool.or_eq_true, beq_iff_eq, Prod.mk.injEq, Bool.or_false] at hj
      omega
    subst e
    exact ⟨[], [], bn321 F, .nil, fun _ => rfl⟩)
theorem pr165 (X : K.In base) (G : base.Ns mainGlobals mg) (c : He.SaysX fa fn [] tf ex w h K) (TB : ∀ p ∈ tf.map (He.cT K), LamX.TabB base mg p.1 p.2) : PrF P w K mg base (fx K) tb pg (TT K) 165 "_law_integer_due" := by
  obtain ⟨fd, F⟩ := (sd c).def_ 32 (d := d165) rfl
  exact prF_of (d := d165) (b := false) F (He.glo_ok X G ((sd c).fact 32 (f := .glo "_law_integer_due") rfl)) sc165 rfl ck165 (fun z => by cases z) (fun j hj => by
    have e : j = 0 := by
      have hj : (j == 0 || dfJ.contains (165, j)) = true := hj
      simp only [dfJ, List.contains_cons, List.contains_nil, Bool.or_eq_true, beq_iff_eq, Prod.mk.injEq, Bool.or_false] at hj
      omega
    subst e
    exact ⟨[], [], bn165 F, .nil, fun _ => rfl⟩)
theorem pr156 (X : K.In base) (G : base.Ns mainGlobals mg) (c : He.SaysX fa fn [] tf ex w h K) (TB : ∀ p ∈ tf.map (He.cT K), LamX.TabB base mg p.1 p.2) : PrF P w K mg base (fx K) tb pg (TT K) 156 "_law_fraction_due" := by
  obtain ⟨fd, F⟩ := (sd c).def_ 33 (d := d156) rfl
  exact prF_of (d := d156) (b := false) F (He.glo_ok X G ((sd c).fact 33 (f := .glo "_law_fraction_due") rfl)) sc156 rfl ck156 (fun z => by cases z) (fun j hj => by
    have e : j = 0 := by
      have hj : (j == 0 || dfJ.contains (156, j)) = true := hj
      simp only [dfJ, List.contains_cons, List.contains_nil, Bool.or_eq_true, beq_iff_eq, Prod.mk.injEq, Bool.or_false] at hj
      omega
    subst e
    exact ⟨[], [], bn156 F, .nil, fun _ => rfl⟩)
theorem pr331 (X : K.In base) (G : base.Ns mainGlobals mg) (c : He.SaysX fa fn [] tf ex w h K) (TB : ∀ p ∈ tf.map (He.cT K), LamX.TabB base mg p.1 p.2) : PrF P w K mg base (fx K) tb pg (TT K) 331 "_law_written" := by
  obtain ⟨fd, F⟩ := (sd c).def_ 34 (d := d331) rfl
  exact prF_of (d := d331) (b := false) F (He.glo_ok X G ((sd c).fact 34 (f := .glo "_law_written") rfl)) sc331 rfl ck331 (fun z => by cases z) (fun j hj => by
    have e : j = 0 := by
      have hj : (j == 0 || dfJ.contains (331, j)) = true := hj
      simp only [dfJ, List.contains_cons, List.contains_nil, Bool.or_eq_true, beq_iff_eq, Prod.mk.injEq, Bool.or_false] at hj
      omega
    subst e
    exact ⟨[], [], bn331 F, .nil, fun _ => rfl⟩)
theorem pr251 (X : K.In base) (G : base.Ns mainGlobals mg) (c : He.SaysX fa fn [] tf ex w h K) (TB : ∀ p ∈ tf.map (He.cT K), LamX.TabB base mg p.1 p.2) : PrF P w K mg base (fx K) tb pg (TT K) 251 "_law_refuses" := by
  obtain ⟨fd, F⟩ := (sd c).def_ 35 (d := d251) rfl
  exact prF_of (d := d251) (b := true) F (He.glo_ok X G ((sd c).fact 35 (f := .glo "_law_refuses") rfl)) sc251 rfl ck251 (fun _ => laF_of (p := (("_law_refuses" : Str), none)) F (TB _ (by simp [tf])) (by simp [TT]; rfl) (fun q hq _ => by simp only [TT, List.mem_cons, List.not_mem_nil, or_false] at hq; subst hq; rfl)) (fun j hj => by
    have e : j = 0 := by
      have hj : (j == 0 || dfJ.contains (251, j)) = true := hj
      simp only [dfJ, List.contains_cons, List.contains_nil, Bool.or_eq_true, beq_iff_eq, Prod.mk.injEq, Bool.or_false] at hj
      omega
    subst e
    exact ⟨[], [], bn251 F, .nil, fun _ => rfl⟩)
theorem pr445 (X : K.In base) (G : base.Ns mainGlobals mg) (c : He.SaysX fa fn [] tf ex w h K) (TB : ∀ p ∈ tf.map (He.cT K), LamX.TabB base mg p.1 p.2) : PrF P w K mg base (fx K) tb pg (TT K) 445 "law" := by
  obtain ⟨fd, F⟩ := (sd c).def_ 36 (d := d445) rfl
  exact prF_of (d := d445) (b := false) F (He.glo_ok X G ((sd c).fact 36 (f := .glo "law") rfl)) sc445 rfl ck445 (fun z => by cases z) (fun j hj => by
    have e : j = 0 := by
      have hj : (j == 0 || dfJ.contains (445, j)) = true := hj
      simp only [dfJ, List.contains_cons, List.contains_nil, Bool.or_eq_true, beq_iff_eq, Prod.mk.injEq, Bool.or_false] at hj
      omega
    subst e
    exact ⟨[], [], bn445 F, .nil, fun _ => rfl⟩)
theorem prs (X : K.In base) (G : base.Ns mainGlobals mg) (c : He.SaysX fa fn [] tf ex w h K) (TB : ∀ p ∈ tf.map (He.cT K), LamX.TabB base mg p.1 p.2) : ∀ f x, tb.fn f = some x → PrF P w K mg base (fx K) tb pg (TT K) f x := fun f x e => by
  have m := lookup_pair (show fnT.lookup f = some x from e)
  simp only [fnT, List.mem_cons, List.not_mem_nil, or_false, Prod.mk.injEq] at m
  rcases m with ⟨rfl, rfl⟩ | ⟨rfl, rfl⟩ | ⟨rfl, rfl⟩ | ⟨rfl, rfl⟩ | ⟨rfl, rfl⟩ | ⟨rfl, rfl⟩ | ⟨rfl, rfl⟩ | ⟨rfl, rfl⟩ | ⟨rfl, rfl⟩ | ⟨rfl, rfl⟩ | ⟨rfl, rfl⟩ | ⟨rfl, rfl⟩ | ⟨rfl, rfl⟩ | ⟨rfl, rfl⟩ | ⟨rfl, rfl⟩ | ⟨rfl, rfl⟩ | ⟨rfl, rfl⟩ | ⟨rfl, rfl⟩ | ⟨rfl, rfl⟩ | ⟨rfl, rfl⟩ | ⟨rfl, rfl⟩ | ⟨rfl, rfl⟩ | ⟨rfl, rfl⟩ | ⟨rfl, rfl⟩ | ⟨rfl, rfl⟩ | ⟨rfl, rfl⟩ | ⟨rfl, rfl⟩ | ⟨rfl, rfl⟩ | ⟨rfl, rfl⟩ | ⟨rfl, rfl⟩ | ⟨rfl, rfl⟩ | ⟨rfl, rfl⟩ | ⟨rfl, rfl⟩ | ⟨rfl, rfl⟩ | ⟨rfl, rfl⟩ | ⟨rfl, rfl⟩
  · exact pr528 X G c TB
  · exact pr369 X G c TB
  · exact pr455 X G c TB
  · exact pr405 X G c TB
  · exact pr433 X G c TB
  · exact pr350 X G c TB
  · exact pr522 X G c TB
  · exact pr407 X G c TB
  · exact pr385 X G c TB
  · exact pr429 X G c TB
  · exact pr406 X G c TB
  · exact pr199 X G c TB
  · exact pr290 X G c TB
  · exact pr294 X G c TB
  · exact pr224 X G c TB
  · exact pr159 X G c TB
  · exact pr191 X G c TB
  · exact pr301 X G c TB
  · exact pr170 X G c TB
  · exact pr260 X G c TB
  · exact pr148 X G c TB
  · exact pr315 X G c TB
  · exact pr161 X G c TB
  · exact pr153 X G c TB
  · exact pr154 X G c TB
  · exact pr89 X G c TB
  · exact pr155 X G c TB
  · exact pr190 X G c TB
  · exact pr146 X G c TB
  · exact pr114 X G c TB
  · exact pr321 X G c TB
  · exact pr165 X G c TB
  · exact pr156 X G c TB
  · exact pr331 X G c TB
  · exact pr251 X G c TB
  · exact pr445 X G c TB
theorem lawA (X : K.In h) (G : h.Ns mainGlobals mg) {fa_ : Addr} (hfa : mg "law" = some (.ref fa_)) (c : He.SaysX fa fn [] tf ex w h K)
    (pl : ∀ ns : List Int, ns.length ≤ 63 → (∀ z ∈ ns, Builtin.Int.intBits z ≤ 1048576) → Out (callF pg 14 445 [.scr ns] h0) (fun d _ => d = .bl true) fun _ _ => False) :
    LamX.LawAtS PySem.Challenge.rw_wheelsky_k71_fraction_words w K (L2N.CX PySem.Challenge.pw_wheelsky_k71_fraction_words w) (5 * 14) 63 "_law_script" mg fa_ h := by
  obtain ⟨fd, F⟩ := (sd c).def_ 36 (d := d445) rfl
  have e := hfa.symm.trans (He.glo_ok X G ((sd c).fact 36 (f := .glo "law") rfl))
  cases e
  refine ⟨fd, tf.map (He.cT K), spF (fx K) (callF pg 14 445) 1, fun p hp => ?_, fun p hp => ?_, fun p hp => ?_, fun s u => FunD.bindsA (ps := ["_law_script"]) F (fun _ _ _ _ _ _ us hl => match us, hl with | [_], _ => rfl) s [u] rfl, fun H a ns hl hb hH hS => ?_, fun base X2 G2 TB => ?_⟩
  · obtain ⟨q, hq, rfl⟩ := List.mem_map.mp hp
    exact c.empty q hq
  · obtain ⟨q, hq, rfl⟩ := List.mem_map.mp hp
    exact c.out q hq
  · obtain ⟨q, hq, rfl⟩ := List.mem_map.mp hp
    exact PySem.W.codeHd_of_K X (c.hd q hq)
  · refine law_sp rfl (fun p hp => ?_) hS (pl ns hl hb)
    have hp : p ∈ TT K := hp
    have e : H p.1 = some (.tbl #[]) := by
      simp only [TT, List.mem_cons, List.not_mem_nil, or_false] at hp
      subst hp; exact hH _ (by simp [tf])
    exact ⟨#[], e, trivial, fun pos cv z => by cases z⟩
  · have S := stF (P := PySem.Challenge.pw_wheelsky_k71_fraction_words) X2 G2 c
    exact def_fn (b := false) S F sc445 rfl ck445 (fun z => by cases z) (prog_ok (fun f x e => def_step S (prs X2 G2 c TB f x e)) 13)
end
end PL.k71
namespace PL.k71
open PySem PySem.W PySem.Calls PyProof.Rows
theorem ends (pl : ∀ ns : List Int, ns.length ≤ 63 → (∀ z ∈ ns, Builtin.Int.intBits z ≤ 1048576) → PL.Out (PL.callF pg 14 445 [.scr ns] PL.h0) (fun d _ => d = .bl true) fun _ _ => False) : PySem.Challenge.rw_wheelsky_k71_fraction_words.Holds := by
  w_on; o_law
  refine HandSHeadRun.head_any (r := OpenLaw.row PySem.Challenge.rw_wheelsky_k71_fraction_words) (q := qv) (H := hk) (ob := ob) (M := 4000) (loose := names) (d := HandSHeadRun.topDef (OpenLaw.row PySem.Challenge.rw_wheelsky_k71_fraction_words).prog 56) (kwd := []) ob_eq
    (by kernel_rfl) (fun s => by kernel_rfl) run (by kernel_rfl) (by kernel_rfl) (by kernel_rfl) (by rfl) (by first | assumption | decide +kernel) (by decide +kernel) ⟨rfl, rfl, rfl, rfl, rfl, by decide +kernel⟩ ?hw ?hc
  case hw => w_witness2
  case hc =>
    refine LamX.walk_ofTsE (l := PySem.Challenge.rw_wheelsky_k71_fraction_words) (n := 63) (k := 5 * 14) (x := "_law_script") (CX := fun w => L2N.CX PySem.Challenge.pw_wheelsky_k71_fraction_words w) rfl (by decide) (by kernel_rfl) ⟨rfl, by decide, by decide⟩ ?F ?X
    case F =>
      intro w mg fa_ h Y G hmg0
      obtain ⟨K, KX, c⟩ := Y
      have hmg : mg ("law" : PySem.Str) = some (.ref fa_) := by
        have e : (HandSHeadRun.topDef (OpenLaw.row PySem.Challenge.rw_wheelsky_k71_fraction_words).prog 56).name = ("law" : PySem.Str) := by kernel_rfl
        rw [← e]
        exact hmg0
      exact ⟨K, KX, lawA KX G hmg c pl⟩
    case X =>
      intro w H s e s' z
      obtain ⟨_, _, _, _, _, _, _, _, _, _, _, _, z⟩ := z
      exact z
end PL.k71
end
section
set_option Elab.async false
set_option linter.all false
set_option maxRecDepth 100000
/-! K71C0: the evaluator, by rewriting. -/
namespace PL
open PySem PL
section
variable {α β γ : Type}
theorem ret_bd (a : α) (f : α → M β) : (M.ret a >>= f) = f a := rfl
theorem pur_bd (a : α) (f : α → M β) : ((pure a : M α) >>= f) = f a := rfl
theorem pur_ret (a : α) : (pure a : M α) = M.ret a := rfl
theorem fai_bd (f : α → M β) : ((M.fail : M α) >>= f) = M.fail := rfl
theorem thr_bd (e : Exn) (f : α → M β) : ((M.thr e : M α) >>= f) = M.thr e := rfl
theorem opS (a : α) : M.opt (some a) = M.ret a := rfl
theorem opN : M.opt (none : Option α) = M.fail := rfl
theorem bd_bd (m : M α) (f : α → M β) (g : β → M γ) : ((m >>= f) >>= g) = m >>= fun a => f a >>= g := by
  funext h
  show (match (match m h with | .ok a h' => f a h' | .exc e h' => .exc e h' | .bad => .bad) with | .ok a h' => g a h' | .exc e h' => .exc e h' | .bad => .bad) = (match m h with | .ok a h' => (match f a h' with | .ok a h' => g a h' | .exc e h' => .exc e h' | .bad => .bad) | .exc e h' => .exc e h' | .bad => .bad)
  cases m h <;> rfl
theorem bd_ret (m : M α) : (m >>= fun a => M.ret a) = m := by
  funext h
  show (match m h with | .ok a h' => .ok a h' | .exc e h' => .exc e h' | .bad => .bad) = m h
  cases m h <;> rfl
theorem ite_bd (c : Prop) [Decidable c] (a b : M α) (f : α → M β) : ((if c then a else b) >>= f) = if c then a >>= f else b >>= f := by
  by_cases q : c
  · rw [if_pos q, if_pos q]
  · rw [if_neg q, if_neg q]
theorem opIf (c : Prop) [Decidable c] (a : α) : M.opt (if c then some a else none) = if c then M.ret a else M.fail := by
  by_cases q : c
  · rw [if_pos q, if_pos q]; rfl
  · rw [if_neg q, if_neg q]; rfl
end
variable {ρ : PL.Env} {d : D} {s0 s1 s2 s3 s4 s5 s6 s7 s8 s9 s10 x0 x1 x2 x3 x4 x5 x6 x7 x8 x9 : Sl}
theorem gs0 : getSl (.val d :: ρ) 0 = M.ret d := rfl
theorem gs1 : getSl (s0 :: .val d :: ρ) 1 = M.ret d := rfl
theorem gs2 : getSl (s0 :: s1 :: .val d :: ρ) 2 = M.ret d := rfl
theorem gs3 : getSl (s0 :: s1 :: s2 :: .val d :: ρ) 3 = M.ret d := rfl
theorem gs4 : getSl (s0 :: s1 :: s2 :: s3 :: .val d :: ρ) 4 = M.ret d := rfl
theorem gs5 : getSl (s0 :: s1 :: s2 :: s3 :: s4 :: .val d :: ρ) 5 = M.ret d := rfl
theorem gs6 : getSl (s0 :: s1 :: s2 :: s3 :: s4 :: s5 :: .val d :: ρ) 6 = M.ret d := rfl
theorem gs7 : getSl (s0 :: s1 :: s2 :: s3 :: s4 :: s5 :: s6 :: .val d :: ρ) 7 = M.ret d := rfl
theorem gs8 : getSl (s0 :: s1 :: s2 :: s3 :: s4 :: s5 :: s6 :: s7 :: .val d :: ρ) 8 = M.ret d := rfl
theorem gs9 : getSl (s0 :: s1 :: s2 :: s3 :: s4 :: s5 :: s6 :: s7 :: s8 :: .val d :: ρ) 9 = M.ret d := rfl
theorem gs10 : getSl (s0 :: s1 :: s2 :: s3 :: s4 :: s5 :: s6 :: s7 :: s8 :: s9 :: .val d :: ρ) 10 = M.ret d := rfl
theorem ss0 : setSl (x0 :: ρ) 0 d = some (.val d :: ρ) := by simp [setSl]
theorem ss1 : setSl (s0 :: x0 :: ρ) 1 d = some (s0 :: .val d :: ρ) := by simp [setSl]
theorem ss2 : setSl (s0 :: s1 :: x0 :: ρ) 2 d = some (s0 :: s1 :: .val d :: ρ) := by simp [setSl]
theorem ss3 : setSl (s0 :: s1 :: s2 :: x0 :: ρ) 3 d = some (s0 :: s1 :: s2 :: .val d :: ρ) := by simp [setSl]
theorem ss4 : setSl (s0 :: s1 :: s2 :: s3 :: x0 :: ρ) 4 d = some (s0 :: s1 :: s2 :: s3 :: .val d :: ρ) := by simp [setSl]
theorem ss5 : setSl (s0 :: s1 :: s2 :: s3 :: s4 :: x0 :: ρ) 5 d = some (s0 :: s1 :: s2 :: s3 :: s4 :: .val d :: ρ) := by simp [setSl]
theorem ss6 : setSl (s0 :: s1 :: s2 :: s3 :: s4 :: s5 :: x0 :: ρ) 6 d = some (s0 :: s1 :: s2 :: s3 :: s4 :: s5 :: .val d :: ρ) := by simp [setSl]
theorem ss7 : setSl (s0 :: s1 :: s2 :: s3 :: s4 :: s5 :: s6 :: x0 :: ρ) 7 d = some (s0 :: s1 :: s2 :: s3 :: s4 :: s5 :: s6 :: .val d :: ρ) := by simp [setSl]
theorem ss8 : setSl (s0 :: s1 :: s2 :: s3 :: s4 :: s5 :: s6 :: s7 :: x0 :: ρ) 8 d = some (s0 :: s1 :: s2 :: s3 :: s4 :: s5 :: s6 :: s7 :: .val d :: ρ) := by simp [setSl]
theorem ss9 : setSl (s0 :: s1 :: s2 :: s3 :: s4 :: s5 :: s6 :: s7 :: s8 :: x0 :: ρ) 9 d = some (s0 :: s1 :: s2 :: s3 :: s4 :: s5 :: s6 :: s7 :: s8 :: .val d :: ρ) := by simp [setSl]
theorem ss10 : setSl (s0 :: s1 :: s2 :: s3 :: s4 :: s5 :: s6 :: s7 :: s8 :: s9 :: x0 :: ρ) 10 d = some (s0 :: s1 :: s2 :: s3 :: s4 :: s5 :: s6 :: s7 :: s8 :: s9 :: .val d :: ρ) := by simp [setSl]
/-- the end of a def's run -/
def fin (x : Fl × PL.Env) : M D := match x.1 with
  | .nx => M.ret .non
  | .ret v => M.ret v
  | _ => M.fail
theorem fin_nx : fin (.nx, ρ) = M.ret .non := rfl
theorem fin_ret {v : D} : fin (.ret v, ρ) = M.ret v := rfl
theorem callS {pg : Pg} {k f : Nat} {d : Df} {ds : List D} (h : pg.df f = some d) (hl : ds.length = d.n) : callF pg (k + 1) f ds = execs (mkC pg (callF pg k)) d.body (ds.map .val ++ List.replicate (d.m - d.n) .non) >>= fin := by
  rw [callF, h]
  show runB _ _ _ = _
  unfold runB
  rw [if_pos hl]
  congr 1
/-- one statement, then the rest -/
noncomputable def nxt (C : Cfg) (ss : List PL.St) (x : Fl × PL.Env) : M (Fl × PL.Env) := match x.1 with
  | .nx => execs C ss x.2
  | _ => M.ret x
theorem execs_nil {C : Cfg} : execs C [] ρ = M.ret (.nx, ρ) := by rw [execs]
theorem execs_cons {C : Cfg} {s : PL.St} {ss : List PL.St} : execs C (s :: ss) ρ = exec C s ρ >>= nxt C ss := by
  rw [execs]
  congr 1
  funext x
  obtain ⟨fl, ρ⟩ := x
  cases fl <;> rfl
theorem nxt_nx {C : Cfg} {ss : List PL.St} : nxt C ss (.nx, ρ) = execs C ss ρ := rfl
theorem nxt_ret {C : Cfg} {ss : List PL.St} {v : D} : nxt C ss (.ret v, ρ) = M.ret (.ret v, ρ) := rfl
/-- while: as many turns as it takes -/
theorem whlN_mono {t : PL.Env → M Bool} {b : MS} : ∀ {n m : Nat} {ρ : PL.Env} {h : Hs}, n ≤ m → (whlN t b n ρ h).isBad = false → whlN t b m ρ h = whlN t b n ρ h
  | 0, m, ρ, h, _, e => by cases e
  | n + 1, 0, ρ, h, l, _ => by omega
  | n + 1, m + 1, ρ, h, l, e => by
    have l : n ≤ m := by omega
    unfold whlN at e ⊢
    simp only [Bind.bind, M.bnd] at e ⊢
    cases q : t ρ h with
    | exc x h' => rfl
    | bad => rfl
    | ok k h' =>
      simp only [q] at e ⊢
      cases k with
      | false => rfl
      | true =>
        simp only [if_true, M.bnd] at e ⊢
        cases q2 : b ρ h' with
        | exc x h2 => rfl
        | bad => rfl
        | ok x h2 =>
          simp only [q2] at e ⊢
          obtain ⟨fl, ρ2⟩ := x
          cases fl with
          | nx => exact whlN_mono l e
          | ct => exact whlN_mono l e
          | bk => rfl
          | ret d => rfl
theorem whlM_eq {t : PL.Env → M Bool} {b : MS} {n : Nat} {h : Hs} (e : (whlN t b n ρ h).isBad = false) : whlM t b ρ h = whlN t b n ρ h := by
  have x : ∃ n, (whlN t b n ρ h).isBad = false := ⟨n, e⟩
  unfold whlM
  rw [dif_pos x]
  have c := Classical.choose_spec x
  rcases Nat.le_total n (Classical.choose x) with l | l
  · exact whlN_mono l e
  · exact (whlN_mono l c).symm
theorem evL_L {C : Cfg} {es : List Ex} : evL C (.L es) ρ = (evs C es ρ >>= fun ds => if ds.length ≤ line then pure ds else M.fail) := by rw [evL]
theorem mkC_call {pg : Pg} {c} : (mkC pg c).call = c := rfl
theorem mkC_dfl {pg : Pg} {c} : (mkC pg c).dfl = pg.dfl := rfl
theorem mkC_glo {pg : Pg} {c} : (mkC pg c).glo = pg.glo := rfl
theorem mkC_sup {pg : Pg} {c} : (mkC pg c).sup = pg.sup := rfl
end PL
end
section
set_option Elab.async false
set_option linter.all false
set_option maxRecDepth 100000
/-! K71C1: numbers. -/
namespace PL.k71
open PySem PL
theorem w1 (k i) : callF pg (k + 1) 528 [.int i] = M.ret (.bl true) := rfl
theorem w2 (k i) : callF pg (k + 1) 528 [.bl i] = M.ret (.bl false) := rfl
theorem w3 (k i) : callF pg (k + 1) 528 [.str i] = M.ret (.bl false) := rfl
theorem w4 (k) : callF pg (k + 1) 528 [.non] = M.ret (.bl false) := rfl
theorem w5 (k i) : callF pg (k + 1) 528 [.tup i] = M.ret (.bl false) := rfl
theorem v1 (k i) : callF pg (k + 1) 170 [.int i] = M.ret (.bl true) := rfl
/-- the loop of the greatest common divisor -/
theorem gcd_loop {t : PL.Env → M Bool} {b : MS} (ht : ∀ x y : Int, 0 ≤ y → t [.val (.int x), .val (.int y)] = M.ret (decide (y ≠ 0)))
    (hb : ∀ x y : Int, y ≠ 0 → b [.val (.int x), .val (.int y)] = M.ret (.nx, [.val (.int y), .val (.int (x.fmod y))])) : ∀ (y x : Nat) (h : Hs), ∃ n, whlN t b n [.val (.int x), .val (.int y)] h = .ok (.nx, [.val (.int (Nat.gcd x y)), .val (.int 0)]) h := by
  intro y
  induction y using Nat.strongRecOn with
  | ind y ih =>
    intro x h
    by_cases hy : y = 0
    · subst hy
      refine ⟨1, ?_⟩
      unfold whlN
      rw [ht _ _ (by omega), ret_bd]
      simp only [Int.natCast_zero, ne_eq, not_true, decide_false, Bool.false_eq_true, if_false, Nat.gcd_zero_right]
      rfl
    · obtain ⟨n, e⟩ := ih (x % y) (Nat.mod_lt _ (by omega)) y h
      refine ⟨n + 1, ?_⟩
      have hy' : (y : Int) ≠ 0 := by omega
      unfold whlN
      rw [ht _ _ (by omega), ret_bd, decide_eq_true hy', if_pos rfl, hb _ _ hy', ret_bd]
      show whlN t b n _ h = _
      have e2 : ((x : Int).fmod (y : Int)) = ((x % y : Nat) : Int) := by
        rw [Int.fmod_eq_emod_of_nonneg _ (by omega)]; rfl
      rw [e2, e, Nat.gcd_comm y (x % y), ← Nat.gcd_rec, Nat.gcd_comm y x]
theorem whl_ret {t : PL.Env → M Bool} {b : MS} {ρ ρ' : PL.Env} (H : ∀ h, ∃ n, whlN t b n ρ h = .ok (.nx, ρ') h) : whlM t b ρ = M.ret (.nx, ρ') := by
  funext h
  obtain ⟨n, e⟩ := H h
  rw [whlM_eq (n := n) (by rw [e]; rfl), e]
  rfl
theorem cd1 (k) (a b : Int) : callF pg (k + 1) 369 [.int a, .int b] = M.ret (.int (Int.gcd a b)) := by
  rw [callS (d := ⟨2, 2, ir369⟩) rfl rfl]
  simp only [execs_nil, execs_cons, nxt_nx, nxt_ret, fin_nx, fin_ret, exec, ev, evs, evL_L, ret_bd, pur_bd, fai_bd, thr_bd, pur_ret, opS, opN, bd_bd, ite_bd, opIf, gs0, gs1, gs2, gs3, gs4, gs5, gs6, gs7, gs8, gs9, gs10, ss0, ss1, ss2, ss3, ss4, ss5, ss6, ss7, ss8, ss9, ss10, setTg, setTgs, Option.bind_some, Option.map_some, Option.map_none, truth, truthD, cmpD, cmpP, eqD, binP, isiM, isiAny, isiD, b1M, b1P, b2P, ixM, ixP, mkC_call, mkC_dfl, mkC_glo, mkC_sup, List.map, List.replicate, List.cons_append, List.nil_append, List.append_nil, Nat.reduceSub, List.reduceReplicate, Int.reduceLT, Int.reduceLE, Int.reduceEq, if_true, if_false, Bool.or_false, Bool.or_true, Bool.false_eq_true, Bool.not_true, Bool.not_false, Bool.true_and, Bool.and_true, decide_eq_true_eq, ir369]
  rw [whl_ret fun h => gcd_loop (fun x y hy => ?_) (fun x y hy => ?_) b.natAbs a.natAbs h]
  · simp only [execs_nil, execs_cons, nxt_nx, nxt_ret, fin_nx, fin_ret, exec, ev, evs, evL_L, ret_bd, pur_bd, fai_bd, thr_bd, pur_ret, opS, opN, bd_bd, ite_bd, opIf, gs0, gs1, gs2, gs3, gs4, gs5, gs6, gs7, gs8, gs9, gs10, ss0, ss1, ss2, ss3, ss4, ss5, ss6, ss7, ss8, ss9, ss10, setTg, setTgs, Option.bind_some, Option.map_some, Option.map_none, truth, truthD, cmpD, cmpP, eqD, binP, isiM, isiAny, isiD, b1M, b1P, b2P, ixM, ixP, mkC_call, mkC_dfl, mkC_glo, mkC_sup, List.map, List.replicate, List.cons_append, List.nil_append, List.append_nil, Nat.reduceSub, List.reduceReplicate, Int.reduceLT, Int.reduceLE, Int.reduceEq, if_true, if_false, Bool.or_false, Bool.or_true, Bool.false_eq_true, Bool.not_true, Bool.not_false, Bool.true_and, Bool.and_true, decide_eq_true_eq]
    rfl
  · unfold tru
    simp only [execs_nil, execs_cons, nxt_nx, nxt_ret, fin_nx, fin_ret, exec, ev, evs, evL_L, ret_bd, pur_bd, fai_bd, thr_bd, pur_ret, opS, opN, bd_bd, ite_bd, opIf, gs0, gs1, gs2, gs3, gs4, gs5, gs6, gs7, gs8, gs9, gs10, ss0, ss1, ss2, ss3, ss4, ss5, ss6, ss7, ss8, ss9, ss10, setTg, setTgs, Option.bind_some, Option.map_some, Option.map_none, truth, truthD, cmpD, cmpP, eqD, binP, isiM, isiAny, isiD, b1M, b1P, b2P, ixM, ixP, mkC_call, mkC_dfl, mkC_glo, mkC_sup, List.map, List.replicate, List.cons_append, List.nil_append, List.append_nil, Nat.reduceSub, List.reduceReplicate, Int.reduceLT, Int.reduceLE, Int.reduceEq, if_true, if_false, Bool.or_false, Bool.or_true, Bool.false_eq_true, Bool.not_true, Bool.not_false, Bool.true_and, Bool.and_true, decide_eq_true_eq]
    by_cases e : y = 0 <;> simp [e]
  · simp only [execs_nil, execs_cons, nxt_nx, nxt_ret, fin_nx, fin_ret, exec, ev, evs, evL_L, ret_bd, pur_bd, fai_bd, thr_bd, pur_ret, opS, opN, bd_bd, ite_bd, opIf, gs0, gs1, gs2, gs3, gs4, gs5, gs6, gs7, gs8, gs9, gs10, ss0, ss1, ss2, ss3, ss4, ss5, ss6, ss7, ss8, ss9, ss10, setTg, setTgs, Option.bind_some, Option.map_some, Option.map_none, truth, truthD, cmpD, cmpP, eqD, binP, isiM, isiAny, isiD, b1M, b1P, b2P, ixM, ixP, mkC_call, mkC_dfl, mkC_glo, mkC_sup, List.map, List.replicate, List.cons_append, List.nil_append, List.append_nil, Nat.reduceSub, List.reduceReplicate, Int.reduceLT, Int.reduceLE, Int.reduceEq, if_true, if_false, Bool.or_false, Bool.or_true, Bool.false_eq_true, Bool.not_true, Bool.not_false, Bool.true_and, Bool.and_true, decide_eq_true_eq, if_pos hy, ne_eq, hy, not_false_eq_true]
theorem cd2 (k) (a b : Int) : callF pg (k + 1) 159 [.int a, .int b] = M.ret (.int (Int.gcd a b)) := by
  rw [callS (d := ⟨2, 2, ir159⟩) rfl rfl]
  simp only [execs_nil, execs_cons, nxt_nx, nxt_ret, fin_nx, fin_ret, exec, ev, evs, evL_L, ret_bd, pur_bd, fai_bd, thr_bd, pur_ret, opS, opN, bd_bd, ite_bd, opIf, gs0, gs1, gs2, gs3, gs4, gs5, gs6, gs7, gs8, gs9, gs10, ss0, ss1, ss2, ss3, ss4, ss5, ss6, ss7, ss8, ss9, ss10, setTg, setTgs, Option.bind_some, Option.map_some, Option.map_none, truth, truthD, cmpD, cmpP, eqD, binP, isiM, isiAny, isiD, b1M, b1P, b2P, ixM, ixP, mkC_call, mkC_dfl, mkC_glo, mkC_sup, List.map, List.replicate, List.cons_append, List.nil_append, List.append_nil, Nat.reduceSub, List.reduceReplicate, Int.reduceLT, Int.reduceLE, Int.reduceEq, if_true, if_false, Bool.or_false, Bool.or_true, Bool.false_eq_true, Bool.not_true, Bool.not_false, Bool.true_and, Bool.and_true, decide_eq_true_eq, ir159]
  rw [whl_ret fun h => gcd_loop (fun x y hy => ?_) (fun x y hy => ?_) b.natAbs a.natAbs h]
  · simp only [execs_nil, execs_cons, nxt_nx, nxt_ret, fin_nx, fin_ret, exec, ev, evs, evL_L, ret_bd, pur_bd, fai_bd, thr_bd, pur_ret, opS, opN, bd_bd, ite_bd, opIf, gs0, gs1, gs2, gs3, gs4, gs5, gs6, gs7, gs8, gs9, gs10, ss0, ss1, ss2, ss3, ss4, ss5, ss6, ss7, ss8, ss9, ss10, setTg, setTgs, Option.bind_some, Option.map_some, Option.map_none, truth, truthD, cmpD, cmpP, eqD, binP, isiM, isiAny, isiD, b1M, b1P, b2P, ixM, ixP, mkC_call, mkC_dfl, mkC_glo, mkC_sup, List.map, List.replicate, List.cons_append, List.nil_append, List.append_nil, Nat.reduceSub, List.reduceReplicate, Int.reduceLT, Int.reduceLE, Int.reduceEq, if_true, if_false, Bool.or_false, Bool.or_true, Bool.false_eq_true, Bool.not_true, Bool.not_false, Bool.true_and, Bool.and_true, decide_eq_true_eq]
    rfl
  · unfold tru
    simp only [execs_nil, execs_cons, nxt_nx, nxt_ret, fin_nx, fin_ret, exec, ev, evs, evL_L, ret_bd, pur_bd, fai_bd, thr_bd, pur_ret, opS, opN, bd_bd, ite_bd, opIf, gs0, gs1, gs2, gs3, gs4, gs5, gs6, gs7, gs8, gs9, gs10, ss0, ss1, ss2, ss3, ss4, ss5, ss6, ss7, ss8, ss9, ss10, setTg, setTgs, Option.bind_some, Option.map_some, Option.map_none, truth, truthD, cmpD, cmpP, eqD, binP, isiM, isiAny, isiD, b1M, b1P, b2P, ixM, ixP, mkC_call, mkC_dfl, mkC_glo, mkC_sup, List.map, List.replicate, List.cons_append, List.nil_append, List.append_nil, Nat.reduceSub, List.reduceReplicate, Int.reduceLT, Int.reduceLE, Int.reduceEq, if_true, if_false, Bool.or_false, Bool.or_true, Bool.false_eq_true, Bool.not_true, Bool.not_false, Bool.true_and, Bool.and_true, decide_eq_true_eq]
    by_cases e : y = 0
    · subst e; rfl
    · have e2 : 0 < y := by omega
      simp [e, e2]
  · simp only [execs_nil, execs_cons, nxt_nx, nxt_ret, fin_nx, fin_ret, exec, ev, evs, evL_L, ret_bd, pur_bd, fai_bd, thr_bd, pur_ret, opS, opN, bd_bd, ite_bd, opIf, gs0, gs1, gs2, gs3, gs4, gs5, gs6, gs7, gs8, gs9, gs10, ss0, ss1, ss2, ss3, ss4, ss5, ss6, ss7, ss8, ss9, ss10, setTg, setTgs, Option.bind_some, Option.map_some, Option.map_none, truth, truthD, cmpD, cmpP, eqD, binP, isiM, isiAny, isiD, b1M, b1P, b2P, ixM, ixP, mkC_call, mkC_dfl, mkC_glo, mkC_sup, List.map, List.replicate, List.cons_append, List.nil_append, List.append_nil, Nat.reduceSub, List.reduceReplicate, Int.reduceLT, Int.reduceLE, Int.reduceEq, if_true, if_false, Bool.or_false, Bool.or_true, Bool.false_eq_true, Bool.not_true, Bool.not_false, Bool.true_and, Bool.and_true, decide_eq_true_eq, if_pos hy, ne_eq, hy, not_false_eq_true]
/-- lowest terms -/
def lowD (n d : Int) : D := if d < 0 then .tup [.int (n.fdiv (-(Int.gcd n d : Int))), .int (d.fdiv (-(Int.gcd n d : Int)))] else .tup [.int (n.fdiv (Int.gcd n d)), .int (d.fdiv (Int.gcd n d))]
theorem lw1 (k) (n d : Int) (h0 : d ≠ 0) (hl : (Int.gcd n d).log2 < 9000) : callF pg (k + 2) 455 [.int n, .int d] = M.ret (lowD n d) := by
  have g0 : (Int.gcd n d : Int) ≠ 0 := by
    have := Int.gcd_pos_of_ne_zero_right n h0
    omega
  have g1 : -(Int.gcd n d : Int) ≠ 0 := by omega
  rw [callS (d := ⟨2, 3, ir455⟩) rfl rfl]
  have dfl : pg.dfl 369 0 = [] := rfl
  have l2 : (2 : Nat) ≤ line := by decide
  unfold lowD
  by_cases hd : d < 0
  · simp only [execs_nil, execs_cons, nxt_nx, nxt_ret, fin_nx, fin_ret, exec, ev, evs, evL_L, ret_bd, pur_bd, fai_bd, thr_bd, pur_ret, opS, opN, bd_bd, ite_bd, opIf, gs0, gs1, gs2, gs3, gs4, gs5, gs6, gs7, gs8, gs9, gs10, ss0, ss1, ss2, ss3, ss4, ss5, ss6, ss7, ss8, ss9, ss10, setTg, setTgs, Option.bind_some, Option.map_some, Option.map_none, truth, truthD, cmpD, cmpP, eqD, binP, isiM, isiAny, isiD, b1M, b1P, b2P, ixM, ixP, mkC_call, mkC_dfl, mkC_glo, mkC_sup, List.map, List.replicate, List.cons_append, List.nil_append, List.append_nil, Nat.reduceSub, List.reduceReplicate, Int.reduceLT, Int.reduceLE, Int.reduceEq, if_true, if_false, Bool.or_false, Bool.or_true, Bool.false_eq_true, Bool.not_true, Bool.not_false, Bool.true_and, Bool.and_true, decide_eq_true_eq, ir455, dfl, cd1, hd, decide_true, g0, g1, ne_eq, not_false_eq_true, Int.natAbs_neg, Int.natAbs_natCast, hl, and_self, l2, List.length_cons, List.length_nil, Nat.zero_add, Nat.reduceAdd]
  · simp only [execs_nil, execs_cons, nxt_nx, nxt_ret, fin_nx, fin_ret, exec, ev, evs, evL_L, ret_bd, pur_bd, fai_bd, thr_bd, pur_ret, opS, opN, bd_bd, ite_bd, opIf, gs0, gs1, gs2, gs3, gs4, gs5, gs6, gs7, gs8, gs9, gs10, ss0, ss1, ss2, ss3, ss4, ss5, ss6, ss7, ss8, ss9, ss10, setTg, setTgs, Option.bind_some, Option.map_some, Option.map_none, truth, truthD, cmpD, cmpP, eqD, binP, isiM, isiAny, isiD, b1M, b1P, b2P, ixM, ixP, mkC_call, mkC_dfl, mkC_glo, mkC_sup, List.map, List.replicate, List.cons_append, List.nil_append, List.append_nil, Nat.reduceSub, List.reduceReplicate, Int.reduceLT, Int.reduceLE, Int.reduceEq, if_true, if_false, Bool.or_false, Bool.or_true, Bool.false_eq_true, Bool.not_true, Bool.not_false, Bool.true_and, Bool.and_true, decide_eq_true_eq, ir455, dfl, cd1, hd, decide_false, g0, g1, ne_eq, not_false_eq_true, Int.natAbs_neg, Int.natAbs_natCast, hl, and_self, l2, List.length_cons, List.length_nil, Nat.zero_add, Nat.reduceAdd]
/-- a fraction -/
def isF (a b : Int) : Bool := decide (1 ≤ b) && decide (Int.gcd a b = 1)
theorem len2 {a b : D} : ([a, b].length : Int) = 2 := rfl
theorem fr1 (k) (a b : Int) : callF pg (k + 2) 433 [.tup [.int a, .int b]] = M.ret (.bl (isF a b)) := by
  rw [callS (d := ⟨1, 3, ir433⟩) rfl rfl]
  have d1 : pg.dfl 528 0 = [] := rfl
  have d2 : pg.dfl 369 0 = [] := rfl
  unfold isF
  simp only [execs_nil, execs_cons, nxt_nx, nxt_ret, fin_nx, fin_ret, exec, ev, evs, evL_L, ret_bd, pur_bd, fai_bd, thr_bd, pur_ret, opS, opN, bd_bd, ite_bd, opIf, gs0, gs1, gs2, gs3, gs4, gs5, gs6, gs7, gs8, gs9, gs10, ss0, ss1, ss2, ss3, ss4, ss5, ss6, ss7, ss8, ss9, ss10, setTg, setTgs, Option.bind_some, Option.map_some, Option.map_none, truth, truthD, cmpD, cmpP, eqD, binP, isiM, isiAny, isiD, b1M, b1P, b2P, ixM, ixP, mkC_call, mkC_dfl, mkC_glo, mkC_sup, List.map, List.replicate, List.cons_append, List.nil_append, List.append_nil, Nat.reduceSub, List.reduceReplicate, Int.reduceLT, Int.reduceLE, Int.reduceEq, if_true, if_false, Bool.or_false, Bool.or_true, Bool.false_eq_true, Bool.not_true, Bool.not_false, Bool.true_and, Bool.and_true, decide_eq_true_eq, ir433, d1, d2, w1, cd1, len2, decide_true, decide_false]
  by_cases h : 1 ≤ b
  · simp [h]
    norm_cast
  · simp [h]
/-- no tuple -/
theorem fr0 (k) (d : D) (h : isiD pg.sup .tuple d = some false) : callF pg (k + 2) 433 [d] = M.ret (.bl false) := by
  rw [callS (d := ⟨1, 3, ir433⟩) rfl rfl]
  cases d with
  | ref _ => cases h
  | scr _ => cases h
  | obj _ _ _ => cases h
  | tup _ => cases h
  | _ => rfl
theorem cp1 (k) (a b c d : Int) (h1 : isF a b = true) (h2 : isF c d = true) : callF pg (k + 3) 350 [.tup [.int a, .int b], .tup [.int c, .int d]] = M.ret .non := by
  rw [callS (d := ⟨2, 2, ir350⟩) rfl rfl]
  have d1 : pg.dfl 433 0 = [] := rfl
  simp only [execs_nil, execs_cons, nxt_nx, nxt_ret, fin_nx, fin_ret, exec, ev, evs, evL_L, ret_bd, pur_bd, fai_bd, thr_bd, pur_ret, opS, opN, bd_bd, ite_bd, opIf, gs0, gs1, gs2, gs3, gs4, gs5, gs6, gs7, gs8, gs9, gs10, ss0, ss1, ss2, ss3, ss4, ss5, ss6, ss7, ss8, ss9, ss10, setTg, setTgs, Option.bind_some, Option.map_some, Option.map_none, truth, truthD, cmpD, cmpP, eqD, binP, isiM, isiAny, isiD, b1M, b1P, b2P, ixM, ixP, mkC_call, mkC_dfl, mkC_glo, mkC_sup, List.map, List.replicate, List.cons_append, List.nil_append, List.append_nil, Nat.reduceSub, List.reduceReplicate, Int.reduceLT, Int.reduceLE, Int.reduceEq, if_true, if_false, Bool.or_false, Bool.or_true, Bool.false_eq_true, Bool.not_true, Bool.not_false, Bool.true_and, Bool.and_true, decide_eq_true_eq, ir350, d1, fr1, h1, h2]
theorem gt0 {x y : D} : getD [x, y] 0 = some x := rfl
theorem gt1 {x y : D} : getD [x, y] 1 = some y := rfl
theorem ti1 (k) (a b c d : Int) (h1 : isF a b = true) (h2 : isF c d = true) (m1 : mulOk a c = true) (m2 : mulOk b d = true) (h0 : b * d ≠ 0) (hl : (Int.gcd (a * c) (b * d)).log2 < 9000) :
    callF pg (k + 4) 522 [.tup [.int a, .int b], .tup [.int c, .int d]] = M.ret (lowD (a * c) (b * d)) := by
  rw [callS (d := ⟨2, 2, ir522⟩) rfl rfl]
  have d1 : pg.dfl 350 0 = [] := rfl
  have d2 : pg.dfl 455 0 = [] := rfl
  simp only [execs_nil, execs_cons, nxt_nx, nxt_ret, fin_nx, fin_ret, exec, ev, evs, evL_L, ret_bd, pur_bd, fai_bd, thr_bd, pur_ret, opS, opN, bd_bd, ite_bd, opIf, gs0, gs1, gs2, gs3, gs4, gs5, gs6, gs7, gs8, gs9, gs10, ss0, ss1, ss2, ss3, ss4, ss5, ss6, ss7, ss8, ss9, ss10, setTg, setTgs, Option.bind_some, Option.map_some, Option.map_none, truth, truthD, cmpD, cmpP, eqD, binP, isiM, isiAny, isiD, b1M, b1P, b2P, ixM, ixP, mkC_call, mkC_dfl, mkC_glo, mkC_sup, List.map, List.replicate, List.cons_append, List.nil_append, List.append_nil, Nat.reduceSub, List.reduceReplicate, Int.reduceLT, Int.reduceLE, Int.reduceEq, if_true, if_false, Bool.or_false, Bool.or_true, Bool.false_eq_true, Bool.not_true, Bool.not_false, Bool.true_and, Bool.and_true, decide_eq_true_eq, ir522, d1, d2, cp1 _ _ _ _ _ h1 h2, gt0, gt1, m1, m2, lw1 _ _ _ h0 hl, bd_ret]
/-- the law's own -/
def lowL (n d : Int) : D := if d = 0 then .tup [.int 0, .int 1] else if d < 0 then .tup [.int ((-n).fdiv (Int.gcd n d)), .int ((-d).fdiv (Int.gcd n d))] else .tup [.int (n.fdiv (Int.gcd n d)), .int (d.fdiv (Int.gcd n d))]
theorem ll1 (k) (n d : Int) (hl : (Int.gcd n d).log2 < 9000) : callF pg (k + 2) 191 [.int n, .int d] = M.ret (lowL n d) := by
  rw [callS (d := ⟨2, 3, ir191⟩) rfl rfl]
  have dfl : pg.dfl 159 0 = [] := rfl
  have l2 : (2 : Nat) ≤ line := by decide
  unfold lowL
  by_cases h0 : d = 0
  · subst h0
    simp only [execs_nil, execs_cons, nxt_nx, nxt_ret, fin_nx, fin_ret, exec, ev, evs, evL_L, ret_bd, pur_bd, fai_bd, thr_bd, pur_ret, opS, opN, bd_bd, ite_bd, opIf, gs0, gs1, gs2, gs3, gs4, gs5, gs6, gs7, gs8, gs9, gs10, ss0, ss1, ss2, ss3, ss4, ss5, ss6, ss7, ss8, ss9, ss10, setTg, setTgs, Option.bind_some, Option.map_some, Option.map_none, truth, truthD, cmpD, cmpP, eqD, binP, isiM, isiAny, isiD, b1M, b1P, b2P, ixM, ixP, mkC_call, mkC_dfl, mkC_glo, mkC_sup, List.map, List.replicate, List.cons_append, List.nil_append, List.append_nil, Nat.reduceSub, List.reduceReplicate, Int.reduceLT, Int.reduceLE, Int.reduceEq, if_true, if_false, Bool.or_false, Bool.or_true, Bool.false_eq_true, Bool.not_true, Bool.not_false, Bool.true_and, Bool.and_true, decide_eq_true_eq, ir191, decide_true, l2, List.length_cons, List.length_nil, Nat.zero_add, Nat.reduceAdd]
  · have g0 : (Int.gcd n d : Int) ≠ 0 := by
      have := Int.gcd_pos_of_ne_zero_right n h0
      omega
    by_cases hd : d < 0
    · simp only [execs_nil, execs_cons, nxt_nx, nxt_ret, fin_nx, fin_ret, exec, ev, evs, evL_L, ret_bd, pur_bd, fai_bd, thr_bd, pur_ret, opS, opN, bd_bd, ite_bd, opIf, gs0, gs1, gs2, gs3, gs4, gs5, gs6, gs7, gs8, gs9, gs10, ss0, ss1, ss2, ss3, ss4, ss5, ss6, ss7, ss8, ss9, ss10, setTg, setTgs, Option.bind_some, Option.map_some, Option.map_none, truth, truthD, cmpD, cmpP, eqD, binP, isiM, isiAny, isiD, b1M, b1P, b2P, ixM, ixP, mkC_call, mkC_dfl, mkC_glo, mkC_sup, List.map, List.replicate, List.cons_append, List.nil_append, List.append_nil, Nat.reduceSub, List.reduceReplicate, Int.reduceLT, Int.reduceLE, Int.reduceEq, if_true, if_false, Bool.or_false, Bool.or_true, Bool.false_eq_true, Bool.not_true, Bool.not_false, Bool.true_and, Bool.and_true, decide_eq_true_eq, ir191, dfl, cd2, h0, hd, decide_true, decide_false, g0, ne_eq, not_false_eq_true, Int.gcd_neg, Int.neg_gcd, Int.natAbs_natCast, hl, and_self, l2, List.length_cons, List.length_nil, Nat.zero_add, Nat.reduceAdd]
    · simp only [execs_nil, execs_cons, nxt_nx, nxt_ret, fin_nx, fin_ret, exec, ev, evs, evL_L, ret_bd, pur_bd, fai_bd, thr_bd, pur_ret, opS, opN, bd_bd, ite_bd, opIf, gs0, gs1, gs2, gs3, gs4, gs5, gs6, gs7, gs8, gs9, gs10, ss0, ss1, ss2, ss3, ss4, ss5, ss6, ss7, ss8, ss9, ss10, setTg, setTgs, Option.bind_some, Option.map_some, Option.map_none, truth, truthD, cmpD, cmpP, eqD, binP, isiM, isiAny, isiD, b1M, b1P, b2P, ixM, ixP, mkC_call, mkC_dfl, mkC_glo, mkC_sup, List.map, List.replicate, List.cons_append, List.nil_append, List.append_nil, Nat.reduceSub, List.reduceReplicate, Int.reduceLT, Int.reduceLE, Int.reduceEq, if_true, if_false, Bool.or_false, Bool.or_true, Bool.false_eq_true, Bool.not_true, Bool.not_false, Bool.true_and, Bool.and_true, decide_eq_true_eq, ir191, dfl, cd2, h0, hd, decide_false, g0, ne_eq, not_false_eq_true, Int.natAbs_neg, Int.natAbs_natCast, hl, and_self, l2, List.length_cons, List.length_nil, Nat.zero_add, Nat.reduceAdd]
theorem lt1 (k) (a b c d : Int) (m1 : mulOk a c = true) (m2 : mulOk b d = true) (hl : (Int.gcd (a * c) (b * d)).log2 < 9000) : callF pg (k + 3) 301 [.tup [.int a, .int b], .tup [.int c, .int d]] = M.ret (lowL (a * c) (b * d)) := by
  rw [callS (d := ⟨2, 2, ir301⟩) rfl rfl]
  have d2 : pg.dfl 191 0 = [] := rfl
  simp only [execs_nil, execs_cons, nxt_nx, nxt_ret, fin_nx, fin_ret, exec, ev, evs, evL_L, ret_bd, pur_bd, fai_bd, thr_bd, pur_ret, opS, opN, bd_bd, ite_bd, opIf, gs0, gs1, gs2, gs3, gs4, gs5, gs6, gs7, gs8, gs9, gs10, ss0, ss1, ss2, ss3, ss4, ss5, ss6, ss7, ss8, ss9, ss10, setTg, setTgs, Option.bind_some, Option.map_some, Option.map_none, truth, truthD, cmpD, cmpP, eqD, binP, isiM, isiAny, isiD, b1M, b1P, b2P, ixM, ixP, mkC_call, mkC_dfl, mkC_glo, mkC_sup, List.map, List.replicate, List.cons_append, List.nil_append, List.append_nil, Nat.reduceSub, List.reduceReplicate, Int.reduceLT, Int.reduceLE, Int.reduceEq, if_true, if_false, Bool.or_false, Bool.or_true, Bool.false_eq_true, Bool.not_true, Bool.not_false, Bool.true_and, Bool.and_true, decide_eq_true_eq, ir301, d2, gt0, gt1, m1, m2, ll1 _ _ _ hl, bd_ret]
theorem fc1 (k) (n d : Int) (h0 : d ≠ 0) (hl : (Int.gcd n d).log2 < 9000) : callF pg (k + 3) 405 [.int n, .int d] = M.ret (lowD n d) := by
  rw [callS (d := ⟨2, 2, ir405⟩) rfl rfl]
  have d1 : pg.dfl 528 0 = [] := rfl
  have d2 : pg.dfl 455 0 = [] := rfl
  simp only [execs_nil, execs_cons, nxt_nx, nxt_ret, fin_nx, fin_ret, exec, ev, evs, evL_L, ret_bd, pur_bd, fai_bd, thr_bd, pur_ret, opS, opN, bd_bd, ite_bd, opIf, gs0, gs1, gs2, gs3, gs4, gs5, gs6, gs7, gs8, gs9, gs10, ss0, ss1, ss2, ss3, ss4, ss5, ss6, ss7, ss8, ss9, ss10, setTg, setTgs, Option.bind_some, Option.map_some, Option.map_none, truth, truthD, cmpD, cmpP, eqD, binP, isiM, isiAny, isiD, b1M, b1P, b2P, ixM, ixP, mkC_call, mkC_dfl, mkC_glo, mkC_sup, List.map, List.replicate, List.cons_append, List.nil_append, List.append_nil, Nat.reduceSub, List.reduceReplicate, Int.reduceLT, Int.reduceLE, Int.reduceEq, if_true, if_false, Bool.or_false, Bool.or_true, Bool.false_eq_true, Bool.not_true, Bool.not_false, Bool.true_and, Bool.and_true, decide_eq_true_eq, ir405, d1, d2, w1, h0, decide_false, lw1 _ _ _ h0 hl, bd_ret]
end PL.k71
end
section
set_option Elab.async false
set_option linter.all false
set_option maxRecDepth 100000
/-! K71C2: texts of numbers. -/
namespace PL.k71
open PySem PL
def dgs : List Nat := [48, 49, 50, 51, 52, 53, 54, 55, 56, 57]
theorem mem_dgs {c : Nat} : c ∈ dgs ↔ 48 ≤ c ∧ c ≤ 57 := by
  simp only [dgs, List.mem_cons, List.not_mem_nil, or_false]
  omega
def dOk (s : List Nat) : Bool := !(decide (s.length < 1) || (decide (40 < s.length) || decide (s.head? = some 48))) && s.all fun c => decide (c ∈ dgs)
def iFig (s : List Nat) : List Nat := if s.head? = some 45 then s.drop 1 else s
def iOk (s : List Nat) : Bool := decide (s = [48]) || dOk (iFig s)
def dVal (s : List Nat) : Nat := NumText.digitsVal s
def iVal (s : List Nat) : Int := if s.head? = some 45 then -(dVal (s.drop 1) : Int) else dVal s
theorem dOk_iff {s : List Nat} : dOk s = true ↔ (1 ≤ s.length ∧ s.length ≤ 40 ∧ s.head? ≠ some 48) ∧ NumText.AllDigits s := by
  unfold dOk
  simp only [Bool.and_eq_true, Bool.not_eq_true', Bool.or_eq_false_iff, decide_eq_false_iff_not, List.all_eq_true, decide_eq_true_eq, Nat.not_lt]
  constructor
  · rintro ⟨⟨h1, h2, h3⟩, h4⟩
    exact ⟨⟨by omega, h2, h3⟩, fun c hc => mem_dgs.mp (h4 c hc)⟩
  · rintro ⟨⟨h1, h2, h3⟩, h4⟩
    exact ⟨⟨by omega, h2, h3⟩, fun c hc => mem_dgs.mpr (h4 c hc)⟩
/-! ### slices, signs -/
theorem cut1 {s : List Nat} : cutD s (some 1) none = s.drop 1 := by
  unfold cutD cutP
  cases s with
  | nil => rfl
  | cons c r => simp
theorem cutHd {s : List Nat} : cutD s none (some 1) = s.take 1 := by
  unfold cutD cutP
  cases s with
  | nil => rfl
  | cons c r => simp
theorem starts_minus (s : List Nat) : Txt.startswith (st s) (st [45]) = decide (s.head? = some 45) := by
  unfold Txt.startswith Builtin.Str.subAt
  cases s with
  | nil => rfl
  | cons c r =>
    have e1 : (decide (0 + (st [45]).length ≤ (st (c :: r)).length)) = true := by
      rw [decide_eq_true_eq, st_len, st_len]; simp
    rw [e1, Bool.true_and]
    have e2 : ((st (c :: r)).cps.extract 0 (0 + (st [45]).length) == (st [45]).cps) = decide (c = 45) := by
      have : (st (c :: r)).cps.extract 0 (0 + (st [45]).length) = #[c] := by
        show (c :: r).toArray.extract 0 1 = #[c]
        simp
      rw [this]
      show (#[c] == #[45]) = _
      by_cases h : c = 45
      · subst h; rfl
      · rw [decide_eq_false h]
        simp [h]
    rw [e2]
    simp
/-! ### a comprehension whose turns are pure -/
theorem compL_pure {turn : D → M (Option D)} {g : D → D} : ∀ (xs acc : List D), (∀ x ∈ xs, turn x = M.ret (some (g x))) → acc.length + xs.length ≤ line → compL turn acc xs = M.ret (acc ++ xs.map g)
  | [], acc, _, _ => by rw [compL, List.map_nil, List.append_nil]
  | x :: xs, acc, h, hl => by
    rw [List.length_cons] at hl
    rw [compL, h x List.mem_cons_self, ret_bd]
    dsimp only
    rw [if_pos (by omega), compL_pure xs (acc ++ [g x]) (fun y hy => h y (List.mem_cons_of_mem _ hy)) (by rw [List.length_append, List.length_singleton]; omega)]
    simp
theorem tot_ret {α : Type} {a : α} : M.tot (M.ret a) = M.ret a := rfl
theorem bls_map {α : Type} (f : α → Bool) : ∀ s : List α, blsD (s.map fun c => .bl (f c)) = some (s.map f)
  | [] => rfl
  | c :: r => by
    show (blsD (r.map fun c => .bl (f c))).map (f c :: ·) = _
    rw [bls_map f r]
    rfl
theorem g5 : pg.glo 5 = some (.str dgs) := rfl
theorem g27 : pg.glo 27 = some (.int 40) := rfl
theorem itS (s : List Nat) : itD (.str s) = some (s.map fun c => .str [c]) := rfl
theorem gtc {α : Type} (c : α) (r : List α) : getD (c :: r) 0 = some c := by
  unfold getD ixD
  have e : (0 : Int) < ((c :: r).length : Nat) := by rw [List.length_cons]; omega
  rw [if_pos (by omega), if_pos e]
  rfl
theorem df1 (k : Nat) (s : List Nat) (hl : s.length ≤ line) : callF pg (k + 1) 385 [.str s] = M.ret (.bl (dOk s)) := by
  rw [callS (d := ⟨1, 2, ir385⟩) rfl rfl]
  have all_ : ∀ C : Cfg, C.glo 5 = some (.str dgs) → evL C (.Lc [1] (.n 1) (.Il (.v 0)) (.c (.bl true)) (.cmp .In (.v 1) (.g 5))) [.val (.str s), .non] = M.ret (s.map fun c => .bl (decide (c ∈ dgs))) := fun C hC => by
    rw [evL, evI]
    simp only [execs_nil, execs_cons, nxt_nx, nxt_ret, fin_nx, fin_ret, exec, ev, evs, evL_L, ret_bd, pur_bd, fai_bd, thr_bd, pur_ret, opS, opN, bd_bd, ite_bd, opIf, gs0, gs1, gs2, gs3, gs4, gs5, gs6, gs7, gs8, gs9, gs10, ss0, ss1, ss2, ss3, ss4, ss5, ss6, ss7, ss8, ss9, ss10, setTg, setTgs, Option.bind_some, Option.map_some, Option.map_none, truth, truthD, cmpD, cmpP, eqD, binP, isiM, isiAny, isiD, b1M, b1P, b2P, ixM, ixP, mkC_call, mkC_dfl, mkC_glo, mkC_sup, List.map, List.replicate, List.cons_append, List.nil_append, List.append_nil, Nat.reduceSub, List.reduceReplicate, Int.reduceLT, Int.reduceLE, Int.reduceEq, if_true, if_false, Bool.or_false, Bool.or_true, Bool.false_eq_true, Bool.not_true, Bool.not_false, Bool.true_and, Bool.and_true, decide_eq_true_eq, itS]
    rw [compL_pure (g := fun x => match x with | .str [c] => .bl (decide (c ∈ dgs)) | _ => .non) _ [] (fun x hx => ?_) (by rw [List.length_nil, List.length_map]; omega), List.nil_append, List.map_map]
    · rfl
    · obtain ⟨c, _, rfl⟩ := List.mem_map.mp hx
      unfold turnC
      simp only [execs_nil, execs_cons, nxt_nx, nxt_ret, fin_nx, fin_ret, exec, ev, evs, evL_L, ret_bd, pur_bd, fai_bd, thr_bd, pur_ret, opS, opN, bd_bd, ite_bd, opIf, gs0, gs1, gs2, gs3, gs4, gs5, gs6, gs7, gs8, gs9, gs10, ss0, ss1, ss2, ss3, ss4, ss5, ss6, ss7, ss8, ss9, ss10, setTg, setTgs, Option.bind_some, Option.map_some, Option.map_none, truth, truthD, cmpD, cmpP, eqD, binP, isiM, isiAny, isiD, b1M, b1P, b2P, ixM, ixP, mkC_call, mkC_dfl, mkC_glo, mkC_sup, List.map, List.replicate, List.cons_append, List.nil_append, List.append_nil, Nat.reduceSub, List.reduceReplicate, Int.reduceLT, Int.reduceLE, Int.reduceEq, if_true, if_false, Bool.or_false, Bool.or_true, Bool.false_eq_true, Bool.not_true, Bool.not_false, Bool.true_and, Bool.and_true, decide_eq_true_eq, wipeE, hC, List.set]
      rfl
  cases s with
  | nil => rfl
  | cons c r =>
    have e1 : ¬ ((((c :: r).length : Nat) : Int) < 1) := by rw [List.length_cons]; omega
    unfold dOk
    simp only [execs_nil, execs_cons, nxt_nx, nxt_ret, fin_nx, fin_ret, exec, ev, evs, evL_L, ret_bd, pur_bd, fai_bd, thr_bd, pur_ret, opS, opN, bd_bd, ite_bd, opIf, gs0, gs1, gs2, gs3, gs4, gs5, gs6, gs7, gs8, gs9, gs10, ss0, ss1, ss2, ss3, ss4, ss5, ss6, ss7, ss8, ss9, ss10, setTg, setTgs, Option.bind_some, Option.map_some, Option.map_none, truth, truthD, cmpD, cmpP, eqD, binP, isiM, isiAny, isiD, b1M, b1P, b2P, ixM, ixP, mkC_call, mkC_dfl, mkC_glo, mkC_sup, List.map, List.replicate, List.cons_append, List.nil_append, List.append_nil, Nat.reduceSub, List.reduceReplicate, Int.reduceLT, Int.reduceLE, Int.reduceEq, if_true, if_false, Bool.or_false, Bool.or_true, Bool.false_eq_true, Bool.not_true, Bool.not_false, Bool.true_and, Bool.and_true, decide_eq_true_eq, ir385, hl, e1, decide_false, g27, gtc]
    by_cases h2 : 40 < (c :: r).length
    · have h2' : (40 : Int) < ((c :: r).length : Nat) := by omega
      simp only [execs_nil, execs_cons, nxt_nx, nxt_ret, fin_nx, fin_ret, exec, ev, evs, evL_L, ret_bd, pur_bd, fai_bd, thr_bd, pur_ret, opS, opN, bd_bd, ite_bd, opIf, gs0, gs1, gs2, gs3, gs4, gs5, gs6, gs7, gs8, gs9, gs10, ss0, ss1, ss2, ss3, ss4, ss5, ss6, ss7, ss8, ss9, ss10, setTg, setTgs, Option.bind_some, Option.map_some, Option.map_none, truth, truthD, cmpD, cmpP, eqD, binP, isiM, isiAny, isiD, b1M, b1P, b2P, ixM, ixP, mkC_call, mkC_dfl, mkC_glo, mkC_sup, List.map, List.replicate, List.cons_append, List.nil_append, List.append_nil, Nat.reduceSub, List.reduceReplicate, Int.reduceLT, Int.reduceLE, Int.reduceEq, if_true, if_false, Bool.or_false, Bool.or_true, Bool.false_eq_true, Bool.not_true, Bool.not_false, Bool.true_and, Bool.and_true, decide_eq_true_eq, h2, h2', decide_true, Bool.true_or, Bool.not_true, Bool.false_and]
    · have h2' : ¬ (40 : Int) < ((c :: r).length : Nat) := by omega
      have e3 : ¬ (c :: r).length < 1 := by rw [List.length_cons]; omega
      by_cases h3 : c = 48
      · subst h3
        simp only [execs_nil, execs_cons, nxt_nx, nxt_ret, fin_nx, fin_ret, exec, ev, evs, evL_L, ret_bd, pur_bd, fai_bd, thr_bd, pur_ret, opS, opN, bd_bd, ite_bd, opIf, gs0, gs1, gs2, gs3, gs4, gs5, gs6, gs7, gs8, gs9, gs10, ss0, ss1, ss2, ss3, ss4, ss5, ss6, ss7, ss8, ss9, ss10, setTg, setTgs, Option.bind_some, Option.map_some, Option.map_none, truth, truthD, cmpD, cmpP, eqD, binP, isiM, isiAny, isiD, b1M, b1P, b2P, ixM, ixP, mkC_call, mkC_dfl, mkC_glo, mkC_sup, List.map, List.replicate, List.cons_append, List.nil_append, List.append_nil, Nat.reduceSub, List.reduceReplicate, Int.reduceLT, Int.reduceLE, Int.reduceEq, if_true, if_false, Bool.or_false, Bool.or_true, Bool.false_eq_true, Bool.not_true, Bool.not_false, Bool.true_and, Bool.and_true, decide_eq_true_eq, h2, h2', decide_true, decide_false, List.head?_cons, Bool.false_and]
      · have h3' : ¬ ([c] = [48]) := by simpa using h3
        have h3'' : ¬ (some c = some 48) := by simpa using h3
        simp only [execs_nil, execs_cons, nxt_nx, nxt_ret, fin_nx, fin_ret, exec, ev, evs, evL_L, ret_bd, pur_bd, fai_bd, thr_bd, pur_ret, opS, opN, bd_bd, ite_bd, opIf, gs0, gs1, gs2, gs3, gs4, gs5, gs6, gs7, gs8, gs9, gs10, ss0, ss1, ss2, ss3, ss4, ss5, ss6, ss7, ss8, ss9, ss10, setTg, setTgs, Option.bind_some, Option.map_some, Option.map_none, truth, truthD, cmpD, cmpP, eqD, binP, isiM, isiAny, isiD, b1M, b1P, b2P, ixM, ixP, mkC_call, mkC_dfl, mkC_glo, mkC_sup, List.map, List.replicate, List.cons_append, List.nil_append, List.append_nil, Nat.reduceSub, List.reduceReplicate, Int.reduceLT, Int.reduceLE, Int.reduceEq, if_true, if_false, Bool.or_false, Bool.or_true, Bool.false_eq_true, Bool.not_true, Bool.not_false, Bool.true_and, Bool.and_true, decide_eq_true_eq, h2, h2', h3', h3'', decide_false, List.head?_cons, e3]
        rw [all_ _ g5, ret_bd]
        have hb := bls_map (fun c => decide (c ∈ dgs)) (c :: r)
        simp only [List.map] at hb
        simp only [execs_nil, execs_cons, nxt_nx, nxt_ret, fin_nx, fin_ret, exec, ev, evs, evL_L, ret_bd, pur_bd, fai_bd, thr_bd, pur_ret, opS, opN, bd_bd, ite_bd, opIf, gs0, gs1, gs2, gs3, gs4, gs5, gs6, gs7, gs8, gs9, gs10, ss0, ss1, ss2, ss3, ss4, ss5, ss6, ss7, ss8, ss9, ss10, setTg, setTgs, Option.bind_some, Option.map_some, Option.map_none, truth, truthD, cmpD, cmpP, eqD, binP, isiM, isiAny, isiD, b1M, b1P, b2P, ixM, ixP, mkC_call, mkC_dfl, mkC_glo, mkC_sup, List.map, List.replicate, List.cons_append, List.nil_append, List.append_nil, Nat.reduceSub, List.reduceReplicate, Int.reduceLT, Int.reduceLE, Int.reduceEq, if_true, if_false, Bool.or_false, Bool.or_true, Bool.false_eq_true, Bool.not_true, Bool.not_false, Bool.true_and, Bool.and_true, decide_eq_true_eq, hb]
        congr 2
        simp [List.all_map]
/-- an integer word -/
theorem if1 (k : Nat) (s : List Nat) (hl : s.length ≤ line) : callF pg (k + 2) 429 [.str s] = M.ret (.bl (iOk s)) := by
  rw [callS (d := ⟨1, 1, ir429⟩) rfl rfl]
  have d1 : pg.dfl 385 0 = [] := rfl
  unfold iOk iFig
  by_cases h1 : s = [48]
  · simp only [execs_nil, execs_cons, nxt_nx, nxt_ret, fin_nx, fin_ret, exec, ev, evs, evL_L, ret_bd, pur_bd, fai_bd, thr_bd, pur_ret, opS, opN, bd_bd, ite_bd, opIf, gs0, gs1, gs2, gs3, gs4, gs5, gs6, gs7, gs8, gs9, gs10, ss0, ss1, ss2, ss3, ss4, ss5, ss6, ss7, ss8, ss9, ss10, setTg, setTgs, Option.bind_some, Option.map_some, Option.map_none, truth, truthD, cmpD, cmpP, eqD, binP, isiM, isiAny, isiD, b1M, b1P, b2P, ixM, ixP, mkC_call, mkC_dfl, mkC_glo, mkC_sup, List.map, List.replicate, List.cons_append, List.nil_append, List.append_nil, Nat.reduceSub, List.reduceReplicate, Int.reduceLT, Int.reduceLE, Int.reduceEq, if_true, if_false, Bool.or_false, Bool.or_true, Bool.false_eq_true, Bool.not_true, Bool.not_false, Bool.true_and, Bool.and_true, decide_eq_true_eq, ir429, h1, decide_true, Bool.true_or]
  · by_cases h2 : s.head? = some 45
    · have hl2 : (s.drop 1).length ≤ line := by rw [List.length_drop]; omega
      simp only [execs_nil, execs_cons, nxt_nx, nxt_ret, fin_nx, fin_ret, exec, ev, evs, evL_L, ret_bd, pur_bd, fai_bd, thr_bd, pur_ret, opS, opN, bd_bd, ite_bd, opIf, gs0, gs1, gs2, gs3, gs4, gs5, gs6, gs7, gs8, gs9, gs10, ss0, ss1, ss2, ss3, ss4, ss5, ss6, ss7, ss8, ss9, ss10, setTg, setTgs, Option.bind_some, Option.map_some, Option.map_none, truth, truthD, cmpD, cmpP, eqD, binP, isiM, isiAny, isiD, b1M, b1P, b2P, ixM, ixP, mkC_call, mkC_dfl, mkC_glo, mkC_sup, List.map, List.replicate, List.cons_append, List.nil_append, List.append_nil, Nat.reduceSub, List.reduceReplicate, Int.reduceLT, Int.reduceLE, Int.reduceEq, if_true, if_false, Bool.or_false, Bool.or_true, Bool.false_eq_true, Bool.not_true, Bool.not_false, Bool.true_and, Bool.and_true, decide_eq_true_eq, ir429, h1, h2, decide_true, decide_false, smR, smP, starts_minus, d1, endM, isNul, endV, slP, cut1, hl, df1 _ _ hl2, Bool.false_or]
    · simp only [execs_nil, execs_cons, nxt_nx, nxt_ret, fin_nx, fin_ret, exec, ev, evs, evL_L, ret_bd, pur_bd, fai_bd, thr_bd, pur_ret, opS, opN, bd_bd, ite_bd, opIf, gs0, gs1, gs2, gs3, gs4, gs5, gs6, gs7, gs8, gs9, gs10, ss0, ss1, ss2, ss3, ss4, ss5, ss6, ss7, ss8, ss9, ss10, setTg, setTgs, Option.bind_some, Option.map_some, Option.map_none, truth, truthD, cmpD, cmpP, eqD, binP, isiM, isiAny, isiD, b1M, b1P, b2P, ixM, ixP, mkC_call, mkC_dfl, mkC_glo, mkC_sup, List.map, List.replicate, List.cons_append, List.nil_append, List.append_nil, Nat.reduceSub, List.reduceReplicate, Int.reduceLT, Int.reduceLE, Int.reduceEq, if_true, if_false, Bool.or_false, Bool.or_true, Bool.false_eq_true, Bool.not_true, Bool.not_false, Bool.true_and, Bool.and_true, decide_eq_true_eq, ir429, h1, h2, decide_true, decide_false, smR, smP, starts_minus, d1, df1 _ _ hl, Bool.false_or]
end PL.k71
end
section
set_option Elab.async false
set_option linter.all false
set_option maxRecDepth 100000
/-! K71C3: words of fractions. -/
namespace PL.k71
open PySem PL
open SX _root_.TL
theorem st_S (s : List Nat) : st s = S s := rfl
theorem un_S (s : List Nat) : un (S s) = s := by
  show (S s).cps.toList = s
  rfl
/-! ### int(..) -/
theorem dOk_ne {s : List Nat} (h : dOk s = true) : s ≠ [] := fun e => by
  subst e
  cases h
theorem rd_ok {s : List Nat} (h : iOk s = true) : rdInt s = some (iVal s) := by
  unfold iOk at h
  rw [Bool.or_eq_true] at h
  rcases h with h | h
  · have := of_decide_eq_true h
    subst this
    unfold rdInt
    rw [if_pos (by decide)]
    exact int_S (a := [48]) rfl (by simp) (by decide)
  · unfold iFig at h
    by_cases h2 : s.head? = some 45
    · rw [if_pos h2] at h
      cases s with
      | nil => cases h2
      | cons c r =>
        have : c = 45 := by simpa using h2
        subst this
        have h : dOk r = true := h
        obtain ⟨⟨l1, l2, _⟩, ad⟩ := dOk_iff.mp h
        unfold rdInt iVal
        rw [if_pos (by rw [List.length_cons]; omega)]
        exact PySem.intText_neg (x := st (45 :: r)) (cs := r) rfl ad (dOk_ne h) (by rw [st_len, List.length_cons]; omega)
    · rw [if_neg h2] at h
      obtain ⟨⟨l1, l2, _⟩, ad⟩ := dOk_iff.mp h
      unfold rdInt iVal
      rw [if_pos (by omega), if_neg h2]
      refine int_S (a := s) ?_ (dOk_ne h) (by omega)
      rw [List.all_eq_true]
      intro c hc
      obtain ⟨a, b⟩ := ad c hc
      simp [a, b]
theorem digitsVal_lt : ∀ (s : List Nat) (a : Nat), NumText.AllDigits s → s.foldl (fun acc c => acc * 10 + (c - 48)) a < (a + 1) * 10 ^ s.length
  | [], a, _ => by simp
  | c :: r, a, h => by
    have hc := h.head
    have ih := digitsVal_lt r (a * 10 + (c - 48)) h.tail
    rw [List.foldl_cons, List.length_cons, Nat.pow_succ]
    have e : (a * 10 + (c - 48) + 1) * 10 ^ r.length ≤ (a + 1) * (10 ^ r.length * 10) := by
      have : a * 10 + (c - 48) + 1 ≤ (a + 1) * 10 := by omega
      calc (a * 10 + (c - 48) + 1) * 10 ^ r.length ≤ ((a + 1) * 10) * 10 ^ r.length := Nat.mul_le_mul_right _ this
        _ = (a + 1) * (10 ^ r.length * 10) := by rw [Nat.mul_assoc, Nat.mul_comm 10]
    omega
theorem dVal_lt {s : List Nat} (h : dOk s = true) : dVal s < 10 ^ 40 := by
  obtain ⟨⟨l1, l2, _⟩, ad⟩ := dOk_iff.mp h
  have := digitsVal_lt s 0 ad
  rw [Nat.zero_add, Nat.one_mul] at this
  exact Nat.lt_of_lt_of_le this (Nat.pow_le_pow_right (by decide) l2)
theorem dVal_pos {s : List Nat} (h : dOk s = true) : 1 ≤ dVal s := by
  obtain ⟨⟨l1, l2, h3⟩, ad⟩ := dOk_iff.mp h
  cases s with
  | nil => cases l1
  | cons c r =>
    have hc := ad.head
    have c48 : c ≠ 48 := fun e => h3 (by rw [e]; rfl)
    have mono : ∀ (l : List Nat) (a : Nat), 1 ≤ a → 1 ≤ l.foldl (fun acc c => acc * 10 + (c - 48)) a := by
      intro l
      induction l with
      | nil => intro a h; exact h
      | cons x l ih => intro a h; exact ih (a * 10 + (x - 48)) (by omega)
    refine mono r (0 * 10 + (c - 48)) ?_
    have := hc.1
    omega
theorem log_of_lt {n k : Nat} (h : n < 2 ^ k) (hk : 0 < k) : n.log2 < k := by
  by_cases h0 : n = 0
  · subst h0; exact hk
  · exact (Nat.log2_lt h0).mpr h
theorem gcd_log {n : Int} {d : Nat} (h1 : 1 ≤ d) (h2 : d < 2 ^ 8000) : (Int.gcd n d).log2 < 9000 := by
  have : Int.gcd n d ≤ d := by
    have := Nat.gcd_le_right n.natAbs (show 0 < (d : Int).natAbs by omega)
    exact this
  exact Nat.lt_of_lt_of_le (log_of_lt (Nat.lt_of_le_of_lt this h2) (by decide)) (by decide)
theorem p40 : (10 : Nat) ^ 40 < 2 ^ 8000 := by decide +kernel
/-! ### at the first slash -/
def cut47 : List Nat → Option (List Nat × List Nat)
  | [] => none
  | c :: r => if c = 47 then some ([], r) else (cut47 r).map fun p => (c :: p.1, p.2)
theorem cut_none : ∀ {s : List Nat}, cut47 s = none → 47 ∉ s
  | [], _ => by simp
  | c :: r, h => by
    unfold cut47 at h
    by_cases hc : c = 47
    · rw [if_pos hc] at h; cases h
    · rw [if_neg hc] at h
      have := cut_none (Option.map_eq_none_iff.mp h)
      simp [this, Ne.symm hc]
theorem cut_some : ∀ {s a b : List Nat}, cut47 s = some (a, b) → s = a ++ 47 :: b ∧ 47 ∉ a
  | [], a, b, h => by cases h
  | c :: r, a, b, h => by
    unfold cut47 at h
    by_cases hc : c = 47
    · rw [if_pos hc] at h; cases h
      exact ⟨by rw [hc]; rfl, by simp⟩
    · rw [if_neg hc] at h
      obtain ⟨⟨x, y⟩, e1, e2⟩ := Option.map_eq_some_iff.mp h
      obtain ⟨e3, e4⟩ := cut_some e1
      cases e2
      exact ⟨by rw [e3]; rfl, by simp [e4, Ne.symm hc]⟩
theorem cut_free : ∀ {s : List Nat}, 47 ∉ s → cut47 s = none
  | [], _ => rfl
  | c :: r, h => by
    unfold cut47
    rw [if_neg (fun e => h (by rw [e]; exact List.mem_cons_self)), cut_free fun e => h (List.mem_cons_of_mem _ e)]
    rfl
theorem cut_app : ∀ {a b : List Nat}, 47 ∉ a → cut47 (a ++ 47 :: b) = some (a, b)
  | [], b, _ => by show (if 47 = 47 then _ else _) = _; rw [if_pos rfl]
  | c :: r, b, h => by
    show (if c = 47 then _ else (cut47 (r ++ 47 :: b)).map _) = _
    rw [if_neg (fun e => h (by rw [e]; exact List.mem_cons_self)), cut_app fun e => h (List.mem_cons_of_mem _ e)]
    rfl
theorem part_eq (s : List Nat) : Txt.partition (st s) (st [47]) = match cut47 s with | none => (S s, S [], S []) | some (a, b) => (S a, S [47], S b) := by
  cases e : cut47 s with
  | none => exact SX.partition_none (b := [47]) (by simp) (par_head_none (cut_none e))
  | some p =>
    obtain ⟨a, b⟩ := p
    obtain ⟨e1, e2⟩ := cut_some e
    subst e1
    exact partition_some (b := [47]) (by simp) (par_head (sep := []) b e2)
/-! ### fraction_of -/
def fracD (s : List Nat) : D := match cut47 s with
  | none => if iOk s then lowD (iVal s) 1 else .non
  | some (p, q) => if iOk p && dOk q then lowD (iVal p) (dVal q) else .non
theorem d_no45 {s : List Nat} (h : dOk s = true) : s.head? ≠ some 45 := fun e => by
  obtain ⟨⟨_, _, _⟩, ad⟩ := dOk_iff.mp h
  cases s with
  | nil => cases e
  | cons c r =>
    have := ad.head
    have : c = 45 := by simpa using e
    omega
theorem d_val {s : List Nat} (h : dOk s = true) : iOk s = true ∧ iVal s = dVal s := by
  have := d_no45 h
  unfold iOk iVal iFig
  rw [if_neg this, if_neg this, h, Bool.or_true]
  exact ⟨rfl, rfl⟩
theorem fo1 (k : Nat) (s : List Nat) (hl : s.length ≤ line) : callF pg (k + 4) 406 [.str s] = M.ret (fracD s) := by
  rw [callS (d := ⟨1, 4, ir406⟩) rfl rfl]
  have d1 : pg.dfl 429 0 = [] := rfl
  have d2 : pg.dfl 405 1 = [.int 1] := rfl
  have d3 : pg.dfl 385 0 = [] := rfl
  have d4 : pg.dfl 405 0 = [] := rfl
  have n0 : ([47] : List Nat).length ≠ 0 := by decide
  unfold fracD
  cases e : cut47 s with
  | none =>
    have hp : smP .partition (.str s) [.str [47]] = some (.tup [.str s, .str [], .str []]) := by
      show (if ([47] : List Nat).length ≠ 0 ∧ s.length ≤ line then some _ else none) = _
      rw [if_pos ⟨n0, hl⟩, part_eq, e]
      rfl
    cases hi : iOk s with
    | false => simp only [execs_nil, execs_cons, nxt_nx, nxt_ret, fin_nx, fin_ret, exec, ev, evs, evL_L, ret_bd, pur_bd, fai_bd, thr_bd, pur_ret, opS, opN, bd_bd, ite_bd, opIf, gs0, gs1, gs2, gs3, gs4, gs5, gs6, gs7, gs8, gs9, gs10, ss0, ss1, ss2, ss3, ss4, ss5, ss6, ss7, ss8, ss9, ss10, setTg, setTgs, Option.bind_some, Option.map_some, Option.map_none, truth, truthD, cmpD, cmpP, eqD, binP, isiM, isiAny, isiD, b1M, b1P, b2P, ixM, ixP, mkC_call, mkC_dfl, mkC_glo, mkC_sup, List.map, List.replicate, List.cons_append, List.nil_append, List.append_nil, Nat.reduceSub, List.reduceReplicate, Int.reduceLT, Int.reduceLE, Int.reduceEq, if_true, if_false, Bool.or_false, Bool.or_true, Bool.false_eq_true, Bool.not_true, Bool.not_false, Bool.true_and, Bool.and_true, decide_eq_true_eq, ir406, smR, hp, d1, if1 _ s hl, hi]
    | true => simp only [execs_nil, execs_cons, nxt_nx, nxt_ret, fin_nx, fin_ret, exec, ev, evs, evL_L, ret_bd, pur_bd, fai_bd, thr_bd, pur_ret, opS, opN, bd_bd, ite_bd, opIf, gs0, gs1, gs2, gs3, gs4, gs5, gs6, gs7, gs8, gs9, gs10, ss0, ss1, ss2, ss3, ss4, ss5, ss6, ss7, ss8, ss9, ss10, setTg, setTgs, Option.bind_some, Option.map_some, Option.map_none, truth, truthD, cmpD, cmpP, eqD, binP, isiM, isiAny, isiD, b1M, b1P, b2P, ixM, ixP, mkC_call, mkC_dfl, mkC_glo, mkC_sup, List.map, List.replicate, List.cons_append, List.nil_append, List.append_nil, Nat.reduceSub, List.reduceReplicate, Int.reduceLT, Int.reduceLE, Int.reduceEq, if_true, if_false, Bool.or_false, Bool.or_true, Bool.false_eq_true, Bool.not_true, Bool.not_false, Bool.true_and, Bool.and_true, decide_eq_true_eq, ir406, smR, hp, d1, d2, if1 _ s hl, hi, rd_ok hi, decide_true, fc1 _ (iVal s) 1 (by decide) (gcd_log (by decide) (by decide +kernel)), bd_ret]
  | some p =>
    obtain ⟨a, b⟩ := p
    obtain ⟨e1, e2⟩ := cut_some e
    have hp : smP .partition (.str s) [.str [47]] = some (.tup [.str a, .str [47], .str b]) := by
      show (if ([47] : List Nat).length ≠ 0 ∧ s.length ≤ line then some _ else none) = _
      rw [if_pos ⟨n0, hl⟩, part_eq, e]
      rfl
    have la : a.length ≤ line := by rw [e1, List.length_append] at hl; omega
    have lb : b.length ≤ line := by rw [e1, List.length_append, List.length_cons] at hl; omega
    have ns : ¬ ([47] : List Nat) = [] := by simp
    cases hi : iOk a with
    | false => simp only [execs_nil, execs_cons, nxt_nx, nxt_ret, fin_nx, fin_ret, exec, ev, evs, evL_L, ret_bd, pur_bd, fai_bd, thr_bd, pur_ret, opS, opN, bd_bd, ite_bd, opIf, gs0, gs1, gs2, gs3, gs4, gs5, gs6, gs7, gs8, gs9, gs10, ss0, ss1, ss2, ss3, ss4, ss5, ss6, ss7, ss8, ss9, ss10, setTg, setTgs, Option.bind_some, Option.map_some, Option.map_none, truth, truthD, cmpD, cmpP, eqD, binP, isiM, isiAny, isiD, b1M, b1P, b2P, ixM, ixP, mkC_call, mkC_dfl, mkC_glo, mkC_sup, List.map, List.replicate, List.cons_append, List.nil_append, List.append_nil, Nat.reduceSub, List.reduceReplicate, Int.reduceLT, Int.reduceLE, Int.reduceEq, if_true, if_false, Bool.or_false, Bool.or_true, Bool.false_eq_true, Bool.not_true, Bool.not_false, Bool.true_and, Bool.and_true, decide_eq_true_eq, ir406, smR, hp, d1, if1 _ a la, hi, Bool.false_and]
    | true =>
      cases hd : dOk b with
      | false => simp only [execs_nil, execs_cons, nxt_nx, nxt_ret, fin_nx, fin_ret, exec, ev, evs, evL_L, ret_bd, pur_bd, fai_bd, thr_bd, pur_ret, opS, opN, bd_bd, ite_bd, opIf, gs0, gs1, gs2, gs3, gs4, gs5, gs6, gs7, gs8, gs9, gs10, ss0, ss1, ss2, ss3, ss4, ss5, ss6, ss7, ss8, ss9, ss10, setTg, setTgs, Option.bind_some, Option.map_some, Option.map_none, truth, truthD, cmpD, cmpP, eqD, binP, isiM, isiAny, isiD, b1M, b1P, b2P, ixM, ixP, mkC_call, mkC_dfl, mkC_glo, mkC_sup, List.map, List.replicate, List.cons_append, List.nil_append, List.append_nil, Nat.reduceSub, List.reduceReplicate, Int.reduceLT, Int.reduceLE, Int.reduceEq, if_true, if_false, Bool.or_false, Bool.or_true, Bool.false_eq_true, Bool.not_true, Bool.not_false, Bool.true_and, Bool.and_true, decide_eq_true_eq, ir406, smR, hp, d1, d3, if1 _ a la, hi, ns, decide_false, df1 _ b lb, hd]
      | true =>
        obtain ⟨v1, v2⟩ := d_val hd
        have q1 := dVal_pos hd
        have q2 := dVal_lt hd
        simp only [execs_nil, execs_cons, nxt_nx, nxt_ret, fin_nx, fin_ret, exec, ev, evs, evL_L, ret_bd, pur_bd, fai_bd, thr_bd, pur_ret, opS, opN, bd_bd, ite_bd, opIf, gs0, gs1, gs2, gs3, gs4, gs5, gs6, gs7, gs8, gs9, gs10, ss0, ss1, ss2, ss3, ss4, ss5, ss6, ss7, ss8, ss9, ss10, setTg, setTgs, Option.bind_some, Option.map_some, Option.map_none, truth, truthD, cmpD, cmpP, eqD, binP, isiM, isiAny, isiD, b1M, b1P, b2P, ixM, ixP, mkC_call, mkC_dfl, mkC_glo, mkC_sup, List.map, List.replicate, List.cons_append, List.nil_append, List.append_nil, Nat.reduceSub, List.reduceReplicate, Int.reduceLT, Int.reduceLE, Int.reduceEq, if_true, if_false, Bool.or_false, Bool.or_true, Bool.false_eq_true, Bool.not_true, Bool.not_false, Bool.true_and, Bool.and_true, decide_eq_true_eq, ir406, smR, hp, d1, d3, d4, if1 _ a la, hi, ns, decide_false, df1 _ b lb, hd, rd_ok hi, rd_ok v1, v2, fc1 _ (iVal a) (dVal b) (by omega) (gcd_log q1 (Nat.lt_trans q2 p40)), bd_ret, Bool.and_self]
/-! ### the words of fractions -/
def txtI (i : Int) : List Nat := if i < 0 then 45 :: numL i.natAbs else numL i.natAbs
theorem strI_eq (i : Int) : strI i = txtI i := by
  unfold strI txtI
  cases i with
  | ofNat n =>
    have h : ¬ (Int.ofNat n < 0) := Int.not_lt.mpr (Int.natCast_nonneg n)
    rw [if_neg h]
    show un (Str.ofString (toString ((n : Nat) : Int))) = _
    rw [num_S]
    rfl
  | negSucc n =>
    rw [if_pos (by omega)]
    show tl (Str.ofString (toString (Int.negSucc n))) = _
    rw [tl_ofString]
    have e : toString (Int.negSucc n) = "-" ++ toString (n + 1) := rfl
    rw [e, String.toList_append, List.map_append]
    have e2 := tl_num (n + 1)
    rw [tl_ofString] at e2
    exact congrArg (fun l => 45 :: l) e2
theorem txt_free (i : Int) : 47 ∉ txtI i := by
  unfold txtI
  by_cases h : i < 0
  · rw [if_pos h]
    intro hm
    rcases List.mem_cons.mp hm with e | e
    · cases e
    · exact numL_free (.inl (by decide)) e
  · rw [if_neg h]
    exact numL_free (.inl (by decide))
theorem numL_hd : ∀ (n : Nat), 1 ≤ n → (numL n).head? ≠ some 48 ∧ (numL n).head? ≠ some 45 := by
  intro n
  induction n using Nat.strongRecOn with
  | _ n ih =>
    intro h1
    by_cases h : n < 10
    · rw [numL_lt h]
      simp
      omega
    · rw [numL_step (by omega)]
      have hne := numL_ne (n / 10)
      obtain ⟨c, r, e⟩ := List.exists_cons_of_ne_nil hne
      have := ih (n / 10) (by omega) (by omega)
      rw [e] at this ⊢
      simpa using this
theorem numL_ok {n : Nat} (h1 : 1 ≤ n) : dOk (numL n) = decide (n < 10 ^ 40) := by
  by_cases h : n < 10 ^ 40
  · rw [decide_eq_true h, dOk_iff]
    have l := numL_len (k := 40) (by decide) h
    have := numL_ne n
    have l1 : 1 ≤ (numL n).length := List.length_pos_iff.mpr this
    exact ⟨⟨l1, l, (numL_hd n h1).1⟩, numL_digits n⟩
  · rw [decide_eq_false h, Bool.eq_false_iff]
    intro q
    obtain ⟨⟨_, l, _⟩, _⟩ := dOk_iff.mp q
    have := PyProof.Rows.digits10_ge (k := 40) (n := n) (by omega)
    have e : (numL n).length = (Nat.toDigits 10 n).length := by unfold numL; rw [List.length_map]
    omega
theorem numL_v (n : Nat) : dVal (numL n) = n := numL_val n
theorem numL_0 : numL 0 = [48] := numL_lt (by decide)
theorem txt_ok (i : Int) : iOk (txtI i) = decide (i.natAbs < 10 ^ 40) ∧ iVal (txtI i) = i := by
  unfold txtI iOk iVal iFig
  by_cases h : i < 0
  · rw [if_pos h]
    have h1 : 1 ≤ i.natAbs := by omega
    have e : ¬ (45 :: numL i.natAbs = [48]) := by simp
    rw [decide_eq_false e, Bool.false_or, List.head?_cons, if_pos rfl, if_pos rfl, List.drop_succ_cons, List.drop_zero, numL_ok h1, numL_v]
    exact ⟨rfl, by omega⟩
  · rw [if_neg h]
    by_cases h0 : i = 0
    · subst h0
      rw [show (0 : Int).natAbs = 0 from rfl, numL_0]
      exact ⟨rfl, rfl⟩
    · have h1 : 1 ≤ i.natAbs := by omega
      obtain ⟨a, b⟩ := numL_hd _ h1
      have e : ¬ (numL i.natAbs = [48]) := fun e => a (by rw [e]; rfl)
      rw [decide_eq_false e, Bool.false_or, if_neg b, if_neg b, numL_ok h1, numL_v]
      exact ⟨rfl, by omega⟩
/-- the one word of a fraction -/
def wordL (a b : Int) : List Nat := if b = 1 then txtI a else txtI a ++ 47 :: txtI b
theorem txt_pos {b : Int} (h : 1 ≤ b) : txtI b = numL b.natAbs := by
  unfold txtI
  rw [if_neg (by omega)]
theorem low_1 (n : Int) : lowD n 1 = .tup [.int n, .int 1] := by
  unfold lowD
  rw [if_neg (by decide), Int.gcd_one]
  simp
theorem low_fr {a b : Int} (h : isF a b = true) : lowD a b = .tup [.int a, .int b] := by
  unfold isF at h
  rw [Bool.and_eq_true, decide_eq_true_eq, decide_eq_true_eq] at h
  unfold lowD
  rw [if_neg (by omega), h.2]
  simp
theorem isF_iff {a b : Int} : isF a b = true ↔ 1 ≤ b ∧ Int.gcd a b = 1 := by
  unfold isF
  rw [Bool.and_eq_true, decide_eq_true_eq, decide_eq_true_eq]
/-- read back -/
theorem back {a b : Int} (h : isF a b = true) : fracD (wordL a b) = if a.natAbs < 10 ^ 40 ∧ b.natAbs < 10 ^ 40 then .tup [.int a, .int b] else .non := by
  obtain ⟨hb, hg⟩ := isF_iff.mp h
  obtain ⟨o1, o2⟩ := txt_ok a
  unfold fracD wordL
  by_cases h1 : b = 1
  · subst h1
    rw [if_pos rfl, cut_free (txt_free a)]
    dsimp only
    rw [o1, o2, low_1]
    by_cases q : a.natAbs < 10 ^ 40
    · rw [decide_eq_true q, if_pos rfl, if_pos ⟨q, by decide⟩]
    · rw [decide_eq_false q, if_neg Bool.false_ne_true, if_neg (fun z => q z.1)]
  · rw [if_neg h1, cut_app (txt_free a)]
    dsimp only
    rw [o1, o2, txt_pos hb, numL_ok (by omega), numL_v]
    have e : ((b.natAbs : Nat) : Int) = b := by omega
    rw [e, low_fr h]
    by_cases q : a.natAbs < 10 ^ 40
    · by_cases q2 : b.natAbs < 10 ^ 40
      · rw [decide_eq_true q, decide_eq_true q2, Bool.and_self, if_pos rfl, if_pos ⟨q, q2⟩]
      · rw [decide_eq_false q2, Bool.and_false, if_neg Bool.false_ne_true, if_neg (fun z => q2 z.2)]
    · rw [decide_eq_false q, Bool.false_and, if_neg Bool.false_ne_true, if_neg (fun z => q z.1)]
end PL.k71
end
section
set_option Elab.async false
set_option linter.all false
set_option maxRecDepth 100000
/-! K71C4: the law's own reading of words. -/
namespace PL.k71
open PySem PL
open SX _root_.TL
theorem log_le {n a : Nat} (h : n < 2 ^ a) : n.log2 ≤ a := by
  by_cases h0 : n = 0
  · subst h0; exact Nat.zero_le _
  · exact Nat.le_of_lt ((Nat.log2_lt h0).mpr h)
theorem mulOk_of {i j : Int} (a b : Nat) (hi : i.natAbs < 2 ^ a) (hj : j.natAbs < 2 ^ b) (h : a + b < 100000000) : mulOk i j = true := by
  unfold mulOk
  have := log_le hi
  have := log_le hj
  exact decide_eq_true (by omega)
theorem idx_dgs : ∀ c ∈ dgs, Builtin.Str.occurrences (st dgs) (st [c]) 0 (st dgs).length 1 = [c - 48] := by decide +kernel
theorem sm_idx {c : Nat} (h : c ∈ dgs) : smP .index (.str [48, 49, 50, 51, 52, 53, 54, 55, 56, 57]) [.str [c]] = some (.int ((c - 48 : Nat) : Int)) := by
  show (match Builtin.Str.occurrences (st dgs) (st [c]) 0 (st dgs).length 1 with | i :: _ => some (D.int i) | [] => none) = _
  rw [idx_dgs c h]
def body165 : List PL.St := [.iff (.cmp .NotIn (.v 3) (.c (.str [48, 49, 50, 51, 52, 53, 54, 55, 56, 57]))) [.ret (.c (.non))] [],
  .set 2 (.bin .Add (.bin .Mult (.c (.int 10)) (.v 2)) (.sm .index (.c (.str [48, 49, 50, 51, 52, 53, 54, 55, 56, 57])) [(.v 3)]))]
theorem forM_nil {f : D → PL.Env → Option PL.Env} {b : MS} {ρ : PL.Env} : forM f b [] ρ = M.ret (.nx, ρ) := by rw [forM]
theorem forM_nx {f : D → PL.Env → Option PL.Env} {b : MS} {x : D} {xs : List D} {ρ ρ1 ρ2 : PL.Env} (h1 : f x ρ = some ρ1) (h2 : b ρ1 = M.ret (.nx, ρ2)) : forM f b (x :: xs) ρ = forM f b xs ρ2 := by
  rw [forM, h1, opS, ret_bd, h2, ret_bd]
theorem forM_ret {f : D → PL.Env → Option PL.Env} {b : MS} {x d : D} {xs : List D} {ρ ρ1 ρ2 : PL.Env} (h1 : f x ρ = some ρ1) (h2 : b ρ1 = M.ret (.ret d, ρ2)) : forM f b (x :: xs) ρ = M.ret (.ret d, ρ2) := by
  rw [forM, h1, opS, ret_bd, h2, ret_bd]
theorem loop_ok {C : Cfg} {w f : Sl} : ∀ (r : List Nat) (v : Nat) (x : Sl), NumText.AllDigits r → (v + 1) * 10 ^ r.length ≤ 10 ^ 40 →
    ∃ y, forM (setTg (.n 3)) (execs C body165) (r.map fun c => .str [c]) [w, f, .val (.int v), x] = M.ret (.nx, [w, f, .val (.int (r.foldl (fun acc c => acc * 10 + (c - 48)) v : Nat)), y])
  | [], v, x, _, _ => ⟨x, forM_nil⟩
  | c :: r, v, x, h, hl => by
    have hc : c ∈ dgs := mem_dgs.mpr h.head
    have hb : (v + 1) * (10 ^ r.length * 10) ≤ 10 ^ 40 := by rw [List.length_cons, Nat.pow_succ] at hl; exact hl
    have p1 : 1 ≤ 10 ^ r.length := Nat.pow_pos (by decide)
    have hv : v < 10 ^ 40 := by
      have : (v + 1) * 1 ≤ (v + 1) * (10 ^ r.length * 10) := Nat.mul_le_mul_left _ (by omega)
      omega
    have m := mulOk_of (i := 10) (j := v) 4 8000 (by decide) (Nat.lt_trans (by omega) p40) (by decide)
    obtain ⟨y, e⟩ := loop_ok (C := C) (w := w) (f := f) r (v * 10 + (c - 48)) (.val (.str [c])) h.tail (by
      have a1 : v * 10 + (c - 48) + 1 ≤ (v + 1) * 10 := by have := h.head; omega
      calc (v * 10 + (c - 48) + 1) * 10 ^ r.length ≤ ((v + 1) * 10) * 10 ^ r.length := Nat.mul_le_mul_right _ a1
        _ = (v + 1) * (10 ^ r.length * 10) := by rw [Nat.mul_assoc, Nat.mul_comm 10]
        _ ≤ 10 ^ 40 := hb)
    refine ⟨y, ?_⟩
    rw [List.map_cons, forM_nx (ρ1 := [w, f, .val (.int v), .val (.str [c])]) (ρ2 := [w, f, .val (.int ((v * 10 + (c - 48) : Nat) : Int)), .val (.str [c])]) ss3 ?_, e]
    · rfl
    · have e2 : (10 : Int) * (v : Int) + ((c - 48 : Nat) : Int) = ((v * 10 + (c - 48) : Nat) : Int) := by omega
      have hc2 : c ∈ [48, 49, 50, 51, 52, 53, 54, 55, 56, 57] := hc
      simp only [execs_nil, execs_cons, nxt_nx, nxt_ret, fin_nx, fin_ret, exec, ev, evs, evL_L, ret_bd, pur_bd, fai_bd, thr_bd, pur_ret, opS, opN, bd_bd, ite_bd, opIf, gs0, gs1, gs2, gs3, gs4, gs5, gs6, gs7, gs8, gs9, gs10, ss0, ss1, ss2, ss3, ss4, ss5, ss6, ss7, ss8, ss9, ss10, setTg, setTgs, Option.bind_some, Option.map_some, Option.map_none, truth, truthD, cmpD, cmpP, eqD, binP, isiM, isiAny, isiD, b1M, b1P, b2P, ixM, ixP, mkC_call, mkC_dfl, mkC_glo, mkC_sup, List.map, List.replicate, List.cons_append, List.nil_append, List.append_nil, Nat.reduceSub, List.reduceReplicate, Int.reduceLT, Int.reduceLE, Int.reduceEq, if_true, if_false, Bool.or_false, Bool.or_true, Bool.false_eq_true, Bool.not_true, Bool.not_false, Bool.true_and, Bool.and_true, decide_eq_true_eq, body165, smR, sm_idx hc, m, hc2, decide_true, e2]
theorem loop_no {C : Cfg} {w f : Sl} : ∀ (r : List Nat) (v : Nat) (x : Sl), ¬ NumText.AllDigits r → (v + 1) * 10 ^ r.length ≤ 10 ^ 40 →
    ∃ ρ', forM (setTg (.n 3)) (execs C body165) (r.map fun c => .str [c]) [w, f, .val (.int v), x] = M.ret (.ret .non, ρ')
  | [], v, x, h, _ => absurd (fun c hc => by cases hc) h
  | c :: r, v, x, h, hl => by
    by_cases hc : c ∈ dgs
    · have hb : (v + 1) * (10 ^ r.length * 10) ≤ 10 ^ 40 := by rw [List.length_cons, Nat.pow_succ] at hl; exact hl
      have p1 : 1 ≤ 10 ^ r.length := Nat.pow_pos (by decide)
      have hv : v < 10 ^ 40 := by
        have : (v + 1) * 1 ≤ (v + 1) * (10 ^ r.length * 10) := Nat.mul_le_mul_left _ (by omega)
        omega
      have m := mulOk_of (i := 10) (j := v) 4 8000 (by decide) (Nat.lt_trans (by omega) p40) (by decide)
      have hd := mem_dgs.mp hc
      obtain ⟨ρ', e⟩ := loop_no (C := C) (w := w) (f := f) r (v * 10 + (c - 48)) (.val (.str [c])) (fun z => h (fun x hx => by
        rcases List.mem_cons.mp hx with e | e
        · rw [e]; exact hd
        · exact z x e)) (by
        have a1 : v * 10 + (c - 48) + 1 ≤ (v + 1) * 10 := by omega
        calc (v * 10 + (c - 48) + 1) * 10 ^ r.length ≤ ((v + 1) * 10) * 10 ^ r.length := Nat.mul_le_mul_right _ a1
          _ = (v + 1) * (10 ^ r.length * 10) := by rw [Nat.mul_assoc, Nat.mul_comm 10]
          _ ≤ 10 ^ 40 := hb)
      refine ⟨ρ', ?_⟩
      rw [List.map_cons, forM_nx (ρ1 := [w, f, .val (.int v), .val (.str [c])]) (ρ2 := [w, f, .val (.int ((v * 10 + (c - 48) : Nat) : Int)), .val (.str [c])]) ss3 ?_, e]
      have e2 : (10 : Int) * (v : Int) + ((c - 48 : Nat) : Int) = ((v * 10 + (c - 48) : Nat) : Int) := by omega
      have hc2 : c ∈ [48, 49, 50, 51, 52, 53, 54, 55, 56, 57] := hc
      simp only [execs_nil, execs_cons, nxt_nx, nxt_ret, fin_nx, fin_ret, exec, ev, evs, evL_L, ret_bd, pur_bd, fai_bd, thr_bd, pur_ret, opS, opN, bd_bd, ite_bd, opIf, gs0, gs1, gs2, gs3, gs4, gs5, gs6, gs7, gs8, gs9, gs10, ss0, ss1, ss2, ss3, ss4, ss5, ss6, ss7, ss8, ss9, ss10, setTg, setTgs, Option.bind_some, Option.map_some, Option.map_none, truth, truthD, cmpD, cmpP, eqD, binP, isiM, isiAny, isiD, b1M, b1P, b2P, ixM, ixP, mkC_call, mkC_dfl, mkC_glo, mkC_sup, List.map, List.replicate, List.cons_append, List.nil_append, List.append_nil, Nat.reduceSub, List.reduceReplicate, Int.reduceLT, Int.reduceLE, Int.reduceEq, if_true, if_false, Bool.or_false, Bool.or_true, Bool.false_eq_true, Bool.not_true, Bool.not_false, Bool.true_and, Bool.and_true, decide_eq_true_eq, body165, smR, sm_idx hc, m, hc2, decide_true, e2]
    · have hc2 : ¬ c ∈ [48, 49, 50, 51, 52, 53, 54, 55, 56, 57] := hc
      refine ⟨[w, f, .val (.int v), .val (.str [c])], ?_⟩
      rw [List.map_cons, forM_ret (ρ1 := [w, f, .val (.int v), .val (.str [c])]) (d := .non) (ρ2 := [w, f, .val (.int v), .val (.str [c])]) ss3 ?_]
      simp only [execs_nil, execs_cons, nxt_nx, nxt_ret, fin_nx, fin_ret, exec, ev, evs, evL_L, ret_bd, pur_bd, fai_bd, thr_bd, pur_ret, opS, opN, bd_bd, ite_bd, opIf, gs0, gs1, gs2, gs3, gs4, gs5, gs6, gs7, gs8, gs9, gs10, ss0, ss1, ss2, ss3, ss4, ss5, ss6, ss7, ss8, ss9, ss10, setTg, setTgs, Option.bind_some, Option.map_some, Option.map_none, truth, truthD, cmpD, cmpP, eqD, binP, isiM, isiAny, isiD, b1M, b1P, b2P, ixM, ixP, mkC_call, mkC_dfl, mkC_glo, mkC_sup, List.map, List.replicate, List.cons_append, List.nil_append, List.append_nil, Nat.reduceSub, List.reduceReplicate, Int.reduceLT, Int.reduceLE, Int.reduceEq, if_true, if_false, Bool.or_false, Bool.or_true, Bool.false_eq_true, Bool.not_true, Bool.not_false, Bool.true_and, Bool.and_true, decide_eq_true_eq, body165, hc2, decide_false]
def iDue (s : List Nat) : D := if iOk s then .int (iVal s) else .non
theorem seq_nx {C : Cfg} {s : PL.St} {ss : List PL.St} {ρ ρ' : PL.Env} (h : exec C s ρ = M.ret (.nx, ρ')) : execs C (s :: ss) ρ = execs C ss ρ' := by
  rw [execs_cons, h]
  rfl
theorem seq_ret {C : Cfg} {s : PL.St} {ss : List PL.St} {ρ ρ' : PL.Env} {d : D} (h : exec C s ρ = M.ret (.ret d, ρ')) : execs C (s :: ss) ρ = M.ret (.ret d, ρ') := by
  rw [execs_cons, h]
  rfl
theorem len1 {s : List Nat} (hl : s.length ≤ line) : b1P .len (.str s) = some (.int s.length) := by
  show (if s.length ≤ line then some (D.int s.length) else none) = _
  rw [if_pos hl]
theorem id1 (k : Nat) (s : List Nat) (hl : s.length ≤ line) : callF pg (k + 1) 165 [.str s] = M.ret (iDue s) := by
  rw [callS (d := ⟨1, 4, ir165⟩) rfl rfl]
  generalize hC : mkC pg (callF pg k) = C
  by_cases h48 : s = [48]
  · subst h48
    simp only [execs_nil, execs_cons, nxt_nx, nxt_ret, fin_nx, fin_ret, exec, ev, evs, evL_L, ret_bd, pur_bd, fai_bd, thr_bd, pur_ret, opS, opN, bd_bd, ite_bd, opIf, gs0, gs1, gs2, gs3, gs4, gs5, gs6, gs7, gs8, gs9, gs10, ss0, ss1, ss2, ss3, ss4, ss5, ss6, ss7, ss8, ss9, ss10, setTg, setTgs, Option.bind_some, Option.map_some, Option.map_none, truth, truthD, cmpD, cmpP, eqD, binP, isiM, isiAny, isiD, b1M, b1P, b2P, ixM, ixP, mkC_call, mkC_dfl, mkC_glo, mkC_sup, List.map, List.replicate, List.cons_append, List.nil_append, List.append_nil, Nat.reduceSub, List.reduceReplicate, Int.reduceLT, Int.reduceLE, Int.reduceEq, if_true, if_false, Bool.or_false, Bool.or_true, Bool.false_eq_true, Bool.not_true, Bool.not_false, Bool.true_and, Bool.and_true, decide_eq_true_eq, ir165, decide_true]
    rfl
  · have io : iOk s = dOk (iFig s) := by unfold iOk; rw [decide_eq_false h48, Bool.false_or]
    have lf : (iFig s).length ≤ line := by
      unfold iFig
      by_cases q : s.head? = some 45
      · rw [if_pos q, List.length_drop]; omega
      · rw [if_neg q]; exact hl
    have t1 : (s.take 1 = [45]) ↔ s.head? = some 45 := by
      cases s with
      | nil => simp
      | cons c r => simp
    show execs C ir165 [.val (.str s), .non, .non, .non] >>= fin = _
    unfold ir165
    rw [seq_nx (ρ' := [.val (.str s), .non, .non, .non]) (by simp only [execs_nil, execs_cons, nxt_nx, nxt_ret, fin_nx, fin_ret, exec, ev, evs, evL_L, ret_bd, pur_bd, fai_bd, thr_bd, pur_ret, opS, opN, bd_bd, ite_bd, opIf, gs0, gs1, gs2, gs3, gs4, gs5, gs6, gs7, gs8, gs9, gs10, ss0, ss1, ss2, ss3, ss4, ss5, ss6, ss7, ss8, ss9, ss10, setTg, setTgs, Option.bind_some, Option.map_some, Option.map_none, truth, truthD, cmpD, cmpP, eqD, binP, isiM, isiAny, isiD, b1M, b1P, b2P, ixM, ixP, mkC_call, mkC_dfl, mkC_glo, mkC_sup, List.map, List.replicate, List.cons_append, List.nil_append, List.append_nil, Nat.reduceSub, List.reduceReplicate, Int.reduceLT, Int.reduceLE, Int.reduceEq, if_true, if_false, Bool.or_false, Bool.or_true, Bool.false_eq_true, Bool.not_true, Bool.not_false, Bool.true_and, Bool.and_true, decide_eq_true_eq, h48, decide_false]), seq_nx (ρ' := [.val (.str s), .val (.str (iFig s)), .non, .non]) (by
      unfold iFig
      by_cases q : s.head? = some 45
      · have q1 := t1.mpr q
        simp only [execs_nil, execs_cons, nxt_nx, nxt_ret, fin_nx, fin_ret, exec, ev, evs, evL_L, ret_bd, pur_bd, fai_bd, thr_bd, pur_ret, opS, opN, bd_bd, ite_bd, opIf, gs0, gs1, gs2, gs3, gs4, gs5, gs6, gs7, gs8, gs9, gs10, ss0, ss1, ss2, ss3, ss4, ss5, ss6, ss7, ss8, ss9, ss10, setTg, setTgs, Option.bind_some, Option.map_some, Option.map_none, truth, truthD, cmpD, cmpP, eqD, binP, isiM, isiAny, isiD, b1M, b1P, b2P, ixM, ixP, mkC_call, mkC_dfl, mkC_glo, mkC_sup, List.map, List.replicate, List.cons_append, List.nil_append, List.append_nil, Nat.reduceSub, List.reduceReplicate, Int.reduceLT, Int.reduceLE, Int.reduceEq, if_true, if_false, Bool.or_false, Bool.or_true, Bool.false_eq_true, Bool.not_true, Bool.not_false, Bool.true_and, Bool.and_true, decide_eq_true_eq, endM, isNul, endV, slP, cut1, cutHd, hl, q, q1, decide_true]
      · have q1 : ¬ s.take 1 = [45] := fun e => q (t1.mp e)
        simp only [execs_nil, execs_cons, nxt_nx, nxt_ret, fin_nx, fin_ret, exec, ev, evs, evL_L, ret_bd, pur_bd, fai_bd, thr_bd, pur_ret, opS, opN, bd_bd, ite_bd, opIf, gs0, gs1, gs2, gs3, gs4, gs5, gs6, gs7, gs8, gs9, gs10, ss0, ss1, ss2, ss3, ss4, ss5, ss6, ss7, ss8, ss9, ss10, setTg, setTgs, Option.bind_some, Option.map_some, Option.map_none, truth, truthD, cmpD, cmpP, eqD, binP, isiM, isiAny, isiD, b1M, b1P, b2P, ixM, ixP, mkC_call, mkC_dfl, mkC_glo, mkC_sup, List.map, List.replicate, List.cons_append, List.nil_append, List.append_nil, Nat.reduceSub, List.reduceReplicate, Int.reduceLT, Int.reduceLE, Int.reduceEq, if_true, if_false, Bool.or_false, Bool.or_true, Bool.false_eq_true, Bool.not_true, Bool.not_false, Bool.true_and, Bool.and_true, decide_eq_true_eq, endM, isNul, endV, slP, cut1, cutHd, hl, q, q1, decide_false])]
    unfold iDue
    rw [io]
    generalize hf : iFig s = f at lf ⊢
    cases f with
    | nil => rfl
    | cons c r =>
      have e1 : ¬ ((((c :: r).length : Nat) : Int) < 1) := by rw [List.length_cons]; omega
      have e3 : ¬ (c :: r).length < 1 := by rw [List.length_cons]; omega
      have hs : s ≠ [] := fun e => by subst e; cases hf
      obtain ⟨c0, r0, es⟩ := List.exists_cons_of_ne_nil hs
      by_cases h2 : 40 < (c :: r).length
      · have h2' : (40 : Int) < ((c :: r).length : Nat) := by omega
        rw [seq_ret (d := .non) (ρ' := [.val (.str s), .val (.str (c :: r)), .non, .non]) (by simp only [execs_nil, execs_cons, nxt_nx, nxt_ret, fin_nx, fin_ret, exec, ev, evs, evL_L, ret_bd, pur_bd, fai_bd, thr_bd, pur_ret, opS, opN, bd_bd, ite_bd, opIf, gs0, gs1, gs2, gs3, gs4, gs5, gs6, gs7, gs8, gs9, gs10, ss0, ss1, ss2, ss3, ss4, ss5, ss6, ss7, ss8, ss9, ss10, setTg, setTgs, Option.bind_some, Option.map_some, Option.map_none, truth, truthD, cmpD, cmpP, eqD, binP, isiM, isiAny, isiD, b1M, b1P, b2P, ixM, ixP, mkC_call, mkC_dfl, mkC_glo, mkC_sup, List.map, List.replicate, List.cons_append, List.nil_append, List.append_nil, Nat.reduceSub, List.reduceReplicate, Int.reduceLT, Int.reduceLE, Int.reduceEq, if_true, if_false, Bool.or_false, Bool.or_true, Bool.false_eq_true, Bool.not_true, Bool.not_false, Bool.true_and, Bool.and_true, decide_eq_true_eq, e1, decide_false, lf, h2', decide_true])]
        have : dOk (c :: r) = false := by unfold dOk; rw [decide_eq_true h2]; simp
        rw [this]
        rfl
      · have h2' : ¬ (40 : Int) < ((c :: r).length : Nat) := by omega
        by_cases h3 : c = 48
        · subst h3
          rw [seq_ret (d := .non) (ρ' := [.val (.str s), .val (.str (48 :: r)), .non, .non]) (by simp only [execs_nil, execs_cons, nxt_nx, nxt_ret, fin_nx, fin_ret, exec, ev, evs, evL_L, ret_bd, pur_bd, fai_bd, thr_bd, pur_ret, opS, opN, bd_bd, ite_bd, opIf, gs0, gs1, gs2, gs3, gs4, gs5, gs6, gs7, gs8, gs9, gs10, ss0, ss1, ss2, ss3, ss4, ss5, ss6, ss7, ss8, ss9, ss10, setTg, setTgs, Option.bind_some, Option.map_some, Option.map_none, truth, truthD, cmpD, cmpP, eqD, binP, isiM, isiAny, isiD, b1M, b1P, b2P, ixM, ixP, mkC_call, mkC_dfl, mkC_glo, mkC_sup, List.map, List.replicate, List.cons_append, List.nil_append, List.append_nil, Nat.reduceSub, List.reduceReplicate, Int.reduceLT, Int.reduceLE, Int.reduceEq, if_true, if_false, Bool.or_false, Bool.or_true, Bool.false_eq_true, Bool.not_true, Bool.not_false, Bool.true_and, Bool.and_true, decide_eq_true_eq, e1, decide_false, lf, h2', decide_true, gtc])]
          have : dOk (48 :: r) = false := by unfold dOk; simp
          rw [this]
          rfl
        · have h3' : ¬ ([c] = [48]) := by simpa using h3
          rw [seq_nx (ρ' := [.val (.str s), .val (.str (c :: r)), .non, .non]) (by simp only [execs_nil, execs_cons, nxt_nx, nxt_ret, fin_nx, fin_ret, exec, ev, evs, evL_L, ret_bd, pur_bd, fai_bd, thr_bd, pur_ret, opS, opN, bd_bd, ite_bd, opIf, gs0, gs1, gs2, gs3, gs4, gs5, gs6, gs7, gs8, gs9, gs10, ss0, ss1, ss2, ss3, ss4, ss5, ss6, ss7, ss8, ss9, ss10, setTg, setTgs, Option.bind_some, Option.map_some, Option.map_none, truth, truthD, cmpD, cmpP, eqD, binP, isiM, isiAny, isiD, b1M, b1P, b2P, ixM, ixP, mkC_call, mkC_dfl, mkC_glo, mkC_sup, List.map, List.replicate, List.cons_append, List.nil_append, List.append_nil, Nat.reduceSub, List.reduceReplicate, Int.reduceLT, Int.reduceLE, Int.reduceEq, if_true, if_false, Bool.or_false, Bool.or_true, Bool.false_eq_true, Bool.not_true, Bool.not_false, Bool.true_and, Bool.and_true, decide_eq_true_eq, e1, decide_false, lf, h2', h3', gtc]),
            seq_nx (ρ' := [.val (.str s), .val (.str (c :: r)), .val (.int 0), .non]) (by simp only [execs_nil, execs_cons, nxt_nx, nxt_ret, fin_nx, fin_ret, exec, ev, evs, evL_L, ret_bd, pur_bd, fai_bd, thr_bd, pur_ret, opS, opN, bd_bd, ite_bd, opIf, gs0, gs1, gs2, gs3, gs4, gs5, gs6, gs7, gs8, gs9, gs10, ss0, ss1, ss2, ss3, ss4, ss5, ss6, ss7, ss8, ss9, ss10, setTg, setTgs, Option.bind_some, Option.map_some, Option.map_none, truth, truthD, cmpD, cmpP, eqD, binP, isiM, isiAny, isiD, b1M, b1P, b2P, ixM, ixP, mkC_call, mkC_dfl, mkC_glo, mkC_sup, List.map, List.replicate, List.cons_append, List.nil_append, List.append_nil, Nat.reduceSub, List.reduceReplicate, Int.reduceLT, Int.reduceLE, Int.reduceEq, if_true, if_false, Bool.or_false, Bool.or_true, Bool.false_eq_true, Bool.not_true, Bool.not_false, Bool.true_and, Bool.and_true, decide_eq_true_eq])]
          have hb : (0 + 1) * 10 ^ (c :: r).length ≤ 10 ^ 40 := by
            rw [Nat.one_mul]; exact Nat.pow_le_pow_right (by decide) (by omega)
          have hfr : exec C (.fr (.n 3) (.Il (.v 1)) body165) [.val (.str s), .val (.str (c :: r)), .val (.int 0), .non] = forM (setTg (.n 3)) (execs C body165) ((c :: r).map fun c => .str [c]) [.val (.str s), .val (.str (c :: r)), .val (.int 0), .non] := by
            rw [exec, evI]
            simp only [execs_nil, execs_cons, nxt_nx, nxt_ret, fin_nx, fin_ret, exec, ev, evs, evL_L, ret_bd, pur_bd, fai_bd, thr_bd, pur_ret, opS, opN, bd_bd, ite_bd, opIf, gs0, gs1, gs2, gs3, gs4, gs5, gs6, gs7, gs8, gs9, gs10, ss0, ss1, ss2, ss3, ss4, ss5, ss6, ss7, ss8, ss9, ss10, setTg, setTgs, Option.bind_some, Option.map_some, Option.map_none, truth, truthD, cmpD, cmpP, eqD, binP, isiM, isiAny, isiD, b1M, b1P, b2P, ixM, ixP, mkC_call, mkC_dfl, mkC_glo, mkC_sup, List.map, List.replicate, List.cons_append, List.nil_append, List.append_nil, Nat.reduceSub, List.reduceReplicate, Int.reduceLT, Int.reduceLE, Int.reduceEq, if_true, if_false, Bool.or_false, Bool.or_true, Bool.false_eq_true, Bool.not_true, Bool.not_false, Bool.true_and, Bool.and_true, decide_eq_true_eq, itS]
          change execs C [.fr (.n 3) (.Il (.v 1)) body165, .ret (.ite (.cmp .Eq (.ix (.v 0) (.c (.int 0))) (.c (.str [45]))) (.neg (.v 2)) (.v 2))] [.val (.str s), .val (.str (c :: r)), .val (.int 0), .non] >>= fin = _
          by_cases ad : NumText.AllDigits (c :: r)
          · obtain ⟨y, e⟩ := loop_ok (C := C) (w := .val (.str s)) (f := .val (.str (c :: r))) (c :: r) 0 .non ad hb
            have ok : dOk (c :: r) = true := dOk_iff.mpr ⟨⟨by omega, by omega, by simpa using h3⟩, ad⟩
            rw [seq_nx (hfr.trans e), ok, if_pos rfl]
            have ev0 : (List.foldl (fun acc c => acc * 10 + (c - 48)) 0 (c :: r)) = dVal (c :: r) := rfl
            rw [ev0]
            unfold iVal
            subst es
            have e4 : ((some c0 : Option Nat) = some 45) ↔ c0 = 45 := by simp
            have e5 : ([c0] = [45]) ↔ c0 = 45 := by simp
            by_cases q : c0 = 45
            · subst q
              have hf' : r0 = c :: r := hf
              subst hf'
              simp only [execs_nil, execs_cons, nxt_nx, nxt_ret, fin_nx, fin_ret, exec, ev, evs, evL_L, ret_bd, pur_bd, fai_bd, thr_bd, pur_ret, opS, opN, bd_bd, ite_bd, opIf, gs0, gs1, gs2, gs3, gs4, gs5, gs6, gs7, gs8, gs9, gs10, ss0, ss1, ss2, ss3, ss4, ss5, ss6, ss7, ss8, ss9, ss10, setTg, setTgs, Option.bind_some, Option.map_some, Option.map_none, truth, truthD, cmpD, cmpP, eqD, binP, isiM, isiAny, isiD, b1M, b1P, b2P, ixM, ixP, mkC_call, mkC_dfl, mkC_glo, mkC_sup, List.map, List.replicate, List.cons_append, List.nil_append, List.append_nil, Nat.reduceSub, List.reduceReplicate, Int.reduceLT, Int.reduceLE, Int.reduceEq, if_true, if_false, Bool.or_false, Bool.or_true, Bool.false_eq_true, Bool.not_true, Bool.not_false, Bool.true_and, Bool.and_true, decide_eq_true_eq, hl, gtc, decide_true, List.head?_cons, List.drop_succ_cons, List.drop_zero]
            · have hf' : c0 :: r0 = c :: r := by
                have hf2 := hf
                unfold iFig at hf2
                rw [if_neg (by simpa using q)] at hf2
                exact hf2
              obtain ⟨rfl, rfl⟩ := List.cons.inj hf'
              simp only [execs_nil, execs_cons, nxt_nx, nxt_ret, fin_nx, fin_ret, exec, ev, evs, evL_L, ret_bd, pur_bd, fai_bd, thr_bd, pur_ret, opS, opN, bd_bd, ite_bd, opIf, gs0, gs1, gs2, gs3, gs4, gs5, gs6, gs7, gs8, gs9, gs10, ss0, ss1, ss2, ss3, ss4, ss5, ss6, ss7, ss8, ss9, ss10, setTg, setTgs, Option.bind_some, Option.map_some, Option.map_none, truth, truthD, cmpD, cmpP, eqD, binP, isiM, isiAny, isiD, b1M, b1P, b2P, ixM, ixP, mkC_call, mkC_dfl, mkC_glo, mkC_sup, List.map, List.replicate, List.cons_append, List.nil_append, List.append_nil, Nat.reduceSub, List.reduceReplicate, Int.reduceLT, Int.reduceLE, Int.reduceEq, if_true, if_false, Bool.or_false, Bool.or_true, Bool.false_eq_true, Bool.not_true, Bool.not_false, Bool.true_and, Bool.and_true, decide_eq_true_eq, hl, gtc, decide_false, List.head?_cons, e4, e5, q]
          · obtain ⟨ρ', e⟩ := loop_no (C := C) (w := .val (.str s)) (f := .val (.str (c :: r))) (c :: r) 0 .non ad hb
            have no : dOk (c :: r) = false := by
              rw [Bool.eq_false_iff]
              intro z
              exact ad (dOk_iff.mp z).2
            rw [seq_ret (hfr.trans e), no]
            rfl
/-! ### the law's reading of a fraction word -/
theorem spl_one {s : List Nat} (h : 47 ∉ s) : spl [47] 0 [] s = [s] := by
  rw [spl_last1 h]
  rfl
theorem spl_two {a b : List Nat} (h : 47 ∉ a) : spl [47] 0 [] (a ++ 47 :: b) = a :: spl [47] 0 [] b := by
  have := spl_part1 (S := []) (acc := []) (rest := b) h
  exact this
theorem spl_ne : ∀ (s : List Nat), spl [47] 0 [] s ≠ [] := fun s => by
  cases e : cut47 s with
  | none => rw [spl_one (cut_none e)]; simp
  | some p =>
    obtain ⟨a, b⟩ := p
    obtain ⟨e1, e2⟩ := cut_some e
    rw [e1, spl_two e2]; simp
theorem low_eq {n d : Int} (h : 1 ≤ d) : lowL n d = lowD n d := by
  unfold lowL lowD
  rw [if_neg (by omega), if_neg (by omega), if_neg (by omega)]
theorem cast1 : (((0 + 1 : Nat)) : Int) = 1 := rfl
theorem cast2 : (((0 + 1 + 1 : Nat)) : Int) = 2 := rfl
theorem fd1 (k : Nat) (s : List Nat) (hl : s.length + 2 ≤ line) : callF pg (k + 3) 156 [.str s] = M.ret (fracD s) := by
  rw [callS (d := ⟨1, 4, ir156⟩) rfl rfl]
  generalize hC : mkC pg (callF pg (k + 2)) = C
  have hcall : C.call = callF pg (k + 2) := by rw [← hC]; rfl
  have hdfl : C.dfl = pg.dfl := by rw [← hC]; rfl
  have d1 : pg.dfl 165 0 = [] := rfl
  have d2 : pg.dfl 191 0 = [] := rfl
  show execs C ir156 [.val (.str s), .non, .non, .non] >>= fin = _
  unfold ir156
  have h1 : exec C (.set 1 (.fz (.Lspl (.v 0) (.c (.str [47]))))) [.val (.str s), .non, .non, .non] = M.ret (.nx, [.val (.str s), .val (.lst ((spl [47] 0 [] s).map .str)), .non, .non]) := by
    rw [exec, ev, evL]
    have n0 : ([47] : List Nat).length ≠ 0 := by decide
    simp only [execs_nil, execs_cons, nxt_nx, nxt_ret, fin_nx, fin_ret, exec, ev, evs, evL_L, ret_bd, pur_bd, fai_bd, thr_bd, pur_ret, opS, opN, bd_bd, ite_bd, opIf, gs0, gs1, gs2, gs3, gs4, gs5, gs6, gs7, gs8, gs9, gs10, ss0, ss1, ss2, ss3, ss4, ss5, ss6, ss7, ss8, ss9, ss10, setTg, setTgs, Option.bind_some, Option.map_some, Option.map_none, truth, truthD, cmpD, cmpP, eqD, binP, isiM, isiAny, isiD, b1M, b1P, b2P, ixM, ixP, mkC_call, mkC_dfl, mkC_glo, mkC_sup, List.map, List.replicate, List.cons_append, List.nil_append, List.append_nil, Nat.reduceSub, List.reduceReplicate, Int.reduceLT, Int.reduceLE, Int.reduceEq, if_true, if_false, Bool.or_false, Bool.or_true, Bool.false_eq_true, Bool.not_true, Bool.not_false, Bool.true_and, Bool.and_true, decide_eq_true_eq, smR, hl, n0, ne_eq, not_false_eq_true, and_self]
    rw [show Txt.split (st s) (st [47]) = (spl [47] 0 [] s).map S from split_S (b := [47]) (by simp) rfl, List.map_map]
    rfl
  rw [seq_nx h1]
  unfold fracD
  cases e : cut47 s with
  | none =>
    rw [spl_one (cut_none e)]
    have ls : s.length ≤ line := by omega
    cases hi : iOk s with
    | false =>
      have q : iDue s = .non := by unfold iDue; rw [hi]; rfl
      simp only [execs_nil, execs_cons, nxt_nx, nxt_ret, fin_nx, fin_ret, exec, ev, evs, evL_L, ret_bd, pur_bd, fai_bd, thr_bd, pur_ret, opS, opN, bd_bd, ite_bd, opIf, gs0, gs1, gs2, gs3, gs4, gs5, gs6, gs7, gs8, gs9, gs10, ss0, ss1, ss2, ss3, ss4, ss5, ss6, ss7, ss8, ss9, ss10, setTg, setTgs, Option.bind_some, Option.map_some, Option.map_none, truth, truthD, cmpD, cmpP, eqD, binP, isiM, isiAny, isiD, b1M, b1P, b2P, ixM, ixP, mkC_call, mkC_dfl, mkC_glo, mkC_sup, List.map, List.replicate, List.cons_append, List.nil_append, List.append_nil, Nat.reduceSub, List.reduceReplicate, Int.reduceLT, Int.reduceLE, Int.reduceEq, if_true, if_false, Bool.or_false, Bool.or_true, Bool.false_eq_true, Bool.not_true, Bool.not_false, Bool.true_and, Bool.and_true, decide_eq_true_eq, hcall, hdfl, d1, d2, gtc, id1 _ s ls, q, List.length_cons, List.length_nil, isNon, decide_false]
      rfl
    | true =>
      have q : iDue s = .int (iVal s) := by unfold iDue; rw [hi]; rfl
      have g := gcd_log (n := iVal s) (d := 1) (by decide) (by decide +kernel)
      simp only [execs_nil, execs_cons, nxt_nx, nxt_ret, fin_nx, fin_ret, exec, ev, evs, evL_L, ret_bd, pur_bd, fai_bd, thr_bd, pur_ret, opS, opN, bd_bd, ite_bd, opIf, gs0, gs1, gs2, gs3, gs4, gs5, gs6, gs7, gs8, gs9, gs10, ss0, ss1, ss2, ss3, ss4, ss5, ss6, ss7, ss8, ss9, ss10, setTg, setTgs, Option.bind_some, Option.map_some, Option.map_none, truth, truthD, cmpD, cmpP, eqD, binP, isiM, isiAny, isiD, b1M, b1P, b2P, ixM, ixP, mkC_call, mkC_dfl, mkC_glo, mkC_sup, List.map, List.replicate, List.cons_append, List.nil_append, List.append_nil, Nat.reduceSub, List.reduceReplicate, Int.reduceLT, Int.reduceLE, Int.reduceEq, if_true, if_false, Bool.or_false, Bool.or_true, Bool.false_eq_true, Bool.not_true, Bool.not_false, Bool.true_and, Bool.and_true, decide_eq_true_eq, hcall, hdfl, d1, d2, gtc, id1 _ s ls, q, List.length_cons, List.length_nil, isNon, decide_false, cast1, ll1 _ (iVal s) 1 g, bd_ret, low_eq (n := iVal s) (d := 1) (by decide)]
  | some p =>
    obtain ⟨a, b⟩ := p
    obtain ⟨e1, e2⟩ := cut_some e
    have la : a.length ≤ line := by rw [e1, List.length_append] at hl; omega
    have lb : b.length ≤ line := by rw [e1, List.length_append, List.length_cons] at hl; omega
    rw [e1, spl_two e2]
    cases e3 : cut47 b with
    | some p =>
      obtain ⟨c, r⟩ := p
      obtain ⟨e4, e5⟩ := cut_some e3
      have nd : dOk b = false := by
        rw [Bool.eq_false_iff]
        intro z
        have := (dOk_iff.mp z).2 47 (by rw [e4]; simp)
        omega
      have hlen : ∃ x y r, spl [47] 0 [] b = x :: y :: r := by
        rw [e4, spl_two e5]
        obtain ⟨y, r', e6⟩ := List.exists_cons_of_ne_nil (spl_ne r)
        exact ⟨c, y, r', by rw [e6]⟩
      obtain ⟨x, y, r, e6⟩ := hlen
      have e7 : (2 : Int) < (((a :: x :: y :: r).map D.str).length : Nat) := by simp; omega
      rw [e6]
      generalize hL : (a :: x :: y :: r).map D.str = L at e7 ⊢
      have g0 : getD L 0 = some (.str a) := by rw [← hL]; exact gtc _ _
      simp only [execs_nil, execs_cons, nxt_nx, nxt_ret, fin_nx, fin_ret, exec, ev, evs, evL_L, ret_bd, pur_bd, fai_bd, thr_bd, pur_ret, opS, opN, bd_bd, ite_bd, opIf, gs0, gs1, gs2, gs3, gs4, gs5, gs6, gs7, gs8, gs9, gs10, ss0, ss1, ss2, ss3, ss4, ss5, ss6, ss7, ss8, ss9, ss10, setTg, setTgs, Option.bind_some, Option.map_some, Option.map_none, truth, truthD, cmpD, cmpP, eqD, binP, isiM, isiAny, isiD, b1M, b1P, b2P, ixM, ixP, mkC_call, mkC_dfl, mkC_glo, mkC_sup, List.map, List.replicate, List.cons_append, List.nil_append, List.append_nil, Nat.reduceSub, List.reduceReplicate, Int.reduceLT, Int.reduceLE, Int.reduceEq, if_true, if_false, Bool.or_false, Bool.or_true, Bool.false_eq_true, Bool.not_true, Bool.not_false, Bool.true_and, Bool.and_true, decide_eq_true_eq, hcall, hdfl, d1, g0, id1 _ a la, e7, decide_true, nd, Bool.and_false]
    | none =>
      rw [spl_one (cut_none e3)]
      cases hi : iOk a with
      | false =>
        have q : iDue a = .non := by unfold iDue; rw [hi]; rfl
        simp only [execs_nil, execs_cons, nxt_nx, nxt_ret, fin_nx, fin_ret, exec, ev, evs, evL_L, ret_bd, pur_bd, fai_bd, thr_bd, pur_ret, opS, opN, bd_bd, ite_bd, opIf, gs0, gs1, gs2, gs3, gs4, gs5, gs6, gs7, gs8, gs9, gs10, ss0, ss1, ss2, ss3, ss4, ss5, ss6, ss7, ss8, ss9, ss10, setTg, setTgs, Option.bind_some, Option.map_some, Option.map_none, truth, truthD, cmpD, cmpP, eqD, binP, isiM, isiAny, isiD, b1M, b1P, b2P, ixM, ixP, mkC_call, mkC_dfl, mkC_glo, mkC_sup, List.map, List.replicate, List.cons_append, List.nil_append, List.append_nil, Nat.reduceSub, List.reduceReplicate, Int.reduceLT, Int.reduceLE, Int.reduceEq, if_true, if_false, Bool.or_false, Bool.or_true, Bool.false_eq_true, Bool.not_true, Bool.not_false, Bool.true_and, Bool.and_true, decide_eq_true_eq, hcall, hdfl, d1, d2, gtc, id1 _ a la, q, List.length_cons, List.length_nil, isNon, decide_false, cast2, hi, Bool.false_and]
      | true =>
        have q : iDue a = .int (iVal a) := by unfold iDue; rw [hi]; rfl
        cases hb : iOk b with
        | false =>
          have q2 : iDue b = .non := by unfold iDue; rw [hb]; rfl
          have nd : dOk b = false := by
            rw [Bool.eq_false_iff]
            intro z
            rw [(d_val z).1] at hb
            cases hb
          simp only [execs_nil, execs_cons, nxt_nx, nxt_ret, fin_nx, fin_ret, exec, ev, evs, evL_L, ret_bd, pur_bd, fai_bd, thr_bd, pur_ret, opS, opN, bd_bd, ite_bd, opIf, gs0, gs1, gs2, gs3, gs4, gs5, gs6, gs7, gs8, gs9, gs10, ss0, ss1, ss2, ss3, ss4, ss5, ss6, ss7, ss8, ss9, ss10, setTg, setTgs, Option.bind_some, Option.map_some, Option.map_none, truth, truthD, cmpD, cmpP, eqD, binP, isiM, isiAny, isiD, b1M, b1P, b2P, ixM, ixP, mkC_call, mkC_dfl, mkC_glo, mkC_sup, List.map, List.replicate, List.cons_append, List.nil_append, List.append_nil, Nat.reduceSub, List.reduceReplicate, Int.reduceLT, Int.reduceLE, Int.reduceEq, if_true, if_false, Bool.or_false, Bool.or_true, Bool.false_eq_true, Bool.not_true, Bool.not_false, Bool.true_and, Bool.and_true, decide_eq_true_eq, hcall, hdfl, d1, d2, gtc, gt1, id1 _ a la, id1 _ b lb, q, q2, List.length_cons, List.length_nil, isNon, decide_false, decide_true, cast2, Bool.false_and, nd, Bool.and_false]
        | true =>
          have q2 : iDue b = .int (iVal b) := by unfold iDue; rw [hb]; rfl
          cases hd : dOk b with
          | true =>
            obtain ⟨_, v2⟩ := d_val hd
            have p1 := dVal_pos hd
            have p2 := dVal_lt hd
            have g := gcd_log (n := iVal a) p1 (Nat.lt_trans p2 p40)
            have nl : ¬ ((dVal b : Int) < 1) := by omega
            simp only [execs_nil, execs_cons, nxt_nx, nxt_ret, fin_nx, fin_ret, exec, ev, evs, evL_L, ret_bd, pur_bd, fai_bd, thr_bd, pur_ret, opS, opN, bd_bd, ite_bd, opIf, gs0, gs1, gs2, gs3, gs4, gs5, gs6, gs7, gs8, gs9, gs10, ss0, ss1, ss2, ss3, ss4, ss5, ss6, ss7, ss8, ss9, ss10, setTg, setTgs, Option.bind_some, Option.map_some, Option.map_none, truth, truthD, cmpD, cmpP, eqD, binP, isiM, isiAny, isiD, b1M, b1P, b2P, ixM, ixP, mkC_call, mkC_dfl, mkC_glo, mkC_sup, List.map, List.replicate, List.cons_append, List.nil_append, List.append_nil, Nat.reduceSub, List.reduceReplicate, Int.reduceLT, Int.reduceLE, Int.reduceEq, if_true, if_false, Bool.or_false, Bool.or_true, Bool.false_eq_true, Bool.not_true, Bool.not_false, Bool.true_and, Bool.and_true, decide_eq_true_eq, hcall, hdfl, d1, d2, gtc, gt1, id1 _ a la, id1 _ b lb, q, q2, v2, List.length_cons, List.length_nil, isNon, decide_false, decide_true, cast2, hi, hd, Bool.and_self, nl, ll1 _ (iVal a) (dVal b) g, bd_ret, low_eq (n := iVal a) (d := (dVal b : Int)) (by omega)]
          | false =>
            have lt : iVal b < 1 := by
              unfold iOk at hb
              unfold iVal
              rw [Bool.or_eq_true] at hb
              rcases hb with hb | hb
              · have := of_decide_eq_true hb
                subst this
                decide
              · unfold iFig at hb
                by_cases q : b.head? = some 45
                · rw [if_pos q]; omega
                · rw [if_neg q, hd] at hb
                  cases hb
            simp only [execs_nil, execs_cons, nxt_nx, nxt_ret, fin_nx, fin_ret, exec, ev, evs, evL_L, ret_bd, pur_bd, fai_bd, thr_bd, pur_ret, opS, opN, bd_bd, ite_bd, opIf, gs0, gs1, gs2, gs3, gs4, gs5, gs6, gs7, gs8, gs9, gs10, ss0, ss1, ss2, ss3, ss4, ss5, ss6, ss7, ss8, ss9, ss10, setTg, setTgs, Option.bind_some, Option.map_some, Option.map_none, truth, truthD, cmpD, cmpP, eqD, binP, isiM, isiAny, isiD, b1M, b1P, b2P, ixM, ixP, mkC_call, mkC_dfl, mkC_glo, mkC_sup, List.map, List.replicate, List.cons_append, List.nil_append, List.append_nil, Nat.reduceSub, List.reduceReplicate, Int.reduceLT, Int.reduceLE, Int.reduceEq, if_true, if_false, Bool.or_false, Bool.or_true, Bool.false_eq_true, Bool.not_true, Bool.not_false, Bool.true_and, Bool.and_true, decide_eq_true_eq, hcall, hdfl, d1, d2, gtc, gt1, id1 _ a la, id1 _ b lb, q, q2, List.length_cons, List.length_nil, isNon, decide_false, decide_true, cast2, hi, hd, Bool.and_false, lt]
end PL.k71
end
section
set_option Elab.async false
set_option linter.all false
set_option maxRecDepth 100000
/-! K71C5: words told, the comparison, the powers. -/
namespace PL.k71
open PySem PL
open SX _root_.TL
theorem hline : line = 16777216 := rfl
theorem numL_le {n : Nat} (h : n < big) : (numL n).length ≤ 4300 := numL_len (by decide) (by rw [← big_eq]; exact h)
theorem txt_len {i : Int} (h : i.natAbs < big) : (txtI i).length ≤ 4301 := by
  unfold txtI
  have := numL_le h
  by_cases q : i < 0
  · rw [if_pos q, List.length_cons]; omega
  · rw [if_neg q]; omega
theorem word_len {a b : Int} (ha : a.natAbs < big) (hb : b.natAbs < big) : (wordL a b).length ≤ 8700 := by
  unfold wordL
  have := txt_len ha
  have := txt_len hb
  by_cases q : b = 1
  · rw [if_pos q]; omega
  · rw [if_neg q, List.length_append, List.length_cons]; omega
/-- fraction_word -/
theorem fw1 (k : Nat) (a b : Int) (h : isF a b = true) (ha : a.natAbs < big) (hb : b.natAbs < big) : callF pg (k + 3) 407 [.tup [.int a, .int b]] = M.ret (.str (wordL a b)) := by
  rw [callS (d := ⟨1, 1, ir407⟩) rfl rfl]
  have d1 : pg.dfl 433 0 = [] := rfl
  have l1 := txt_len ha
  have l2 := txt_len hb
  unfold wordL
  by_cases q : b = 1
  · subst q
    simp only [execs_nil, execs_cons, nxt_nx, nxt_ret, fin_nx, fin_ret, exec, ev, evs, evL_L, ret_bd, pur_bd, fai_bd, thr_bd, pur_ret, opS, opN, bd_bd, ite_bd, opIf, gs0, gs1, gs2, gs3, gs4, gs5, gs6, gs7, gs8, gs9, gs10, ss0, ss1, ss2, ss3, ss4, ss5, ss6, ss7, ss8, ss9, ss10, setTg, setTgs, Option.bind_some, Option.map_some, Option.map_none, truth, truthD, cmpD, cmpP, eqD, binP, isiM, isiAny, isiD, b1M, b1P, b2P, ixM, ixP, mkC_call, mkC_dfl, mkC_glo, mkC_sup, List.map, List.replicate, List.cons_append, List.nil_append, List.append_nil, Nat.reduceSub, List.reduceReplicate, Int.reduceLT, Int.reduceLE, Int.reduceEq, if_true, if_false, Bool.or_false, Bool.or_true, Bool.false_eq_true, Bool.not_true, Bool.not_false, Bool.true_and, Bool.and_true, decide_eq_true_eq, ir407, d1, fr1, h, gt0, gt1, decide_true, ha, strI_eq]
  · have c1 : (0 : Nat) + (txtI a).length ≤ line := by rw [hline]; omega
    have c2 : (txtI a).length + ([47] : List Nat).length ≤ line := by rw [hline, List.length_singleton]; omega
    have c3 : (txtI a ++ [47]).length + (txtI b).length ≤ line := by rw [hline, List.length_append, List.length_singleton]; omega
    simp only [execs_nil, execs_cons, nxt_nx, nxt_ret, fin_nx, fin_ret, exec, ev, evs, evL_L, ret_bd, pur_bd, fai_bd, thr_bd, pur_ret, opS, opN, bd_bd, ite_bd, opIf, gs0, gs1, gs2, gs3, gs4, gs5, gs6, gs7, gs8, gs9, gs10, ss0, ss1, ss2, ss3, ss4, ss5, ss6, ss7, ss8, ss9, ss10, setTg, setTgs, Option.bind_some, Option.map_some, Option.map_none, truth, truthD, cmpD, cmpP, eqD, binP, isiM, isiAny, isiD, b1M, b1P, b2P, ixM, ixP, mkC_call, mkC_dfl, mkC_glo, mkC_sup, List.map, List.replicate, List.cons_append, List.nil_append, List.append_nil, Nat.reduceSub, List.reduceReplicate, Int.reduceLT, Int.reduceLE, Int.reduceEq, if_true, if_false, Bool.or_false, Bool.or_true, Bool.false_eq_true, Bool.not_true, Bool.not_false, Bool.true_and, Bool.and_true, decide_eq_true_eq, ir407, d1, fr1, h, gt0, gt1, q, decide_false, ha, hb, strI_eq, evJ, fmP, List.length_nil, c1, c2, c3]
    simp
/-- the law's own -/
theorem fw2 (k : Nat) (a b : Int) (ha : a.natAbs < big) (hb : b.natAbs < big) : callF pg (k + 1) 155 [.tup [.int a, .int b]] = M.ret (.str (wordL a b)) := by
  rw [callS (d := ⟨1, 1, ir155⟩) rfl rfl]
  have l1 := txt_len ha
  have l2 := txt_len hb
  unfold wordL
  by_cases q : b = 1
  · simp only [execs_nil, execs_cons, nxt_nx, nxt_ret, fin_nx, fin_ret, exec, ev, evs, evL_L, ret_bd, pur_bd, fai_bd, thr_bd, pur_ret, opS, opN, bd_bd, ite_bd, opIf, gs0, gs1, gs2, gs3, gs4, gs5, gs6, gs7, gs8, gs9, gs10, ss0, ss1, ss2, ss3, ss4, ss5, ss6, ss7, ss8, ss9, ss10, setTg, setTgs, Option.bind_some, Option.map_some, Option.map_none, truth, truthD, cmpD, cmpP, eqD, binP, isiM, isiAny, isiD, b1M, b1P, b2P, ixM, ixP, mkC_call, mkC_dfl, mkC_glo, mkC_sup, List.map, List.replicate, List.cons_append, List.nil_append, List.append_nil, Nat.reduceSub, List.reduceReplicate, Int.reduceLT, Int.reduceLE, Int.reduceEq, if_true, if_false, Bool.or_false, Bool.or_true, Bool.false_eq_true, Bool.not_true, Bool.not_false, Bool.true_and, Bool.and_true, decide_eq_true_eq, ir155, gt0, gt1, q, decide_true, ha, strI_eq]
  · have c2 : (txtI a).length + ([47] : List Nat).length ≤ line := by rw [hline, List.length_singleton]; omega
    have c3 : (txtI a ++ [47]).length + (txtI b).length ≤ line := by rw [hline, List.length_append, List.length_singleton]; omega
    simp only [execs_nil, execs_cons, nxt_nx, nxt_ret, fin_nx, fin_ret, exec, ev, evs, evL_L, ret_bd, pur_bd, fai_bd, thr_bd, pur_ret, opS, opN, bd_bd, ite_bd, opIf, gs0, gs1, gs2, gs3, gs4, gs5, gs6, gs7, gs8, gs9, gs10, ss0, ss1, ss2, ss3, ss4, ss5, ss6, ss7, ss8, ss9, ss10, setTg, setTgs, Option.bind_some, Option.map_some, Option.map_none, truth, truthD, cmpD, cmpP, eqD, binP, isiM, isiAny, isiD, b1M, b1P, b2P, ixM, ixP, mkC_call, mkC_dfl, mkC_glo, mkC_sup, List.map, List.replicate, List.cons_append, List.nil_append, List.append_nil, Nat.reduceSub, List.reduceReplicate, Int.reduceLT, Int.reduceLE, Int.reduceEq, if_true, if_false, Bool.or_false, Bool.or_true, Bool.false_eq_true, Bool.not_true, Bool.not_false, Bool.true_and, Bool.and_true, decide_eq_true_eq, ir155, gt0, gt1, q, decide_false, ha, hb, strI_eq, c2, c3]
    simp
/-! ### _law_fits -/
@[irreducible] def N40 : Nat := 10 ^ 40
theorem N40_eq : N40 = 10 ^ 40 := by unfold N40; rfl
theorem e40 : ((10 : Int) ^ (40 : Int).toNat) = (N40 : Int) := by rw [N40_eq]; decide +kernel
theorem fit0 (k : Nat) (a : Int) : callF pg (k + 1) 148 [.int a] = M.ret (.bl (decide (a.natAbs < N40))) := by
  rw [callS (d := ⟨1, 2, ir148⟩) rfl rfl]
  have c1 : (0 : Int) ≤ 40 ∧ (40 : Int) ≤ 1000 ∧ (10 : Int).natAbs < 1000 := by decide
  simp only [execs_nil, execs_cons, nxt_nx, nxt_ret, fin_nx, fin_ret, exec, ev, evs, evL_L, ret_bd, pur_bd, fai_bd, thr_bd, pur_ret, opS, opN, bd_bd, ite_bd, opIf, gs0, gs1, gs2, gs3, gs4, gs5, gs6, gs7, gs8, gs9, gs10, ss0, ss1, ss2, ss3, ss4, ss5, ss6, ss7, ss8, ss9, ss10, setTg, setTgs, Option.bind_some, Option.map_some, Option.map_none, truth, truthD, cmpD, cmpP, eqD, binP, isiM, isiAny, isiD, b1M, b1P, b2P, ixM, ixP, mkC_call, mkC_dfl, mkC_glo, mkC_sup, List.map, List.replicate, List.cons_append, List.nil_append, List.append_nil, Nat.reduceSub, List.reduceReplicate, Int.reduceLT, Int.reduceLE, Int.reduceEq, if_true, if_false, Bool.or_false, Bool.or_true, Bool.false_eq_true, Bool.not_true, Bool.not_false, Bool.true_and, Bool.and_true, decide_eq_true_eq, ir148, c1, and_self, e40, Int.ofNat_lt]
theorem ex_iff_t {C : Cfg} {t : Ex} {a b : List PL.St} {ρ : PL.Env} (h : ev C t ρ = M.ret (.bl true)) : exec C (.iff t a b) ρ = execs C a ρ := by
  rw [exec, h]
  rfl
theorem ex_iff_f {C : Cfg} {t : Ex} {a b : List PL.St} {ρ : PL.Env} (h : ev C t ρ = M.ret (.bl false)) : exec C (.iff t a b) ρ = execs C b ρ := by
  rw [exec, h]
  rfl
theorem ex_fr {C : Cfg} {tg : Tg} {it : Ex} {b : List PL.St} {ρ : PL.Env} {xs : List D} {r : Fl × PL.Env} (h : evI C it ρ = M.ret xs) (hf : forM (setTg tg) (execs C b) xs ρ = M.ret r) : exec C (.fr tg it b) ρ = M.ret r := by
  rw [exec, h, ret_bd, hf]
theorem ff {C : Cfg} {a b : D} (tt : Bool) (h : C.call 148 ([a] ++ C.dfl 148 0) = M.ret (.bl tt)) : execs C [.iff (.not_ (.call 148 0 [(.v 1)])) [.ret (.c (.bl false))] []] [.val b, .val a] = M.ret (if tt then .nx else .ret (.bl false), [.val b, .val a]) := by
  have h : C.call 148 (a :: C.dfl 148 0) = M.ret (.bl tt) := h
  cases tt <;> simp only [execs_nil, execs_cons, nxt_nx, nxt_ret, fin_nx, fin_ret, exec, ev, evs, evL_L, ret_bd, pur_bd, fai_bd, thr_bd, pur_ret, opS, opN, bd_bd, ite_bd, opIf, gs0, gs1, gs2, gs3, gs4, gs5, gs6, gs7, gs8, gs9, gs10, ss0, ss1, ss2, ss3, ss4, ss5, ss6, ss7, ss8, ss9, ss10, setTg, setTgs, Option.bind_some, Option.map_some, Option.map_none, truth, truthD, cmpD, cmpP, eqD, binP, isiM, isiAny, isiD, b1M, b1P, b2P, ixM, ixP, mkC_call, mkC_dfl, mkC_glo, mkC_sup, List.map, List.replicate, List.cons_append, List.nil_append, List.append_nil, Nat.reduceSub, List.reduceReplicate, Int.reduceLT, Int.reduceLE, Int.reduceEq, if_true, if_false, Bool.or_false, Bool.or_true, Bool.false_eq_true, Bool.not_true, Bool.not_false, Bool.true_and, Bool.and_true, decide_eq_true_eq, h]
theorem fit1 (k : Nat) (a b : Int) : callF pg (k + 2) 148 [.tup [.int a, .int b]] = M.ret (.bl (decide (a.natAbs < N40) && decide (b.natAbs < N40))) := by
  rw [callS (d := ⟨1, 2, ir148⟩) rfl rfl]
  have h1 := fit0 k a
  have h2 := fit0 k b
  generalize decide (a.natAbs < N40) = u at h1 ⊢
  generalize decide (b.natAbs < N40) = v at h2 ⊢
  generalize hC : mkC pg (callF pg (k + 1)) = C
  have hcall : C.call = callF pg (k + 1) := by rw [← hC]; rfl
  have hdfl : C.dfl 148 0 = [] := by rw [← hC]; rfl
  have f1 := ff (C := C) (b := .tup [.int a, .int b]) u (by rw [hcall, hdfl]; exact h1)
  have f2 := ff (C := C) (b := .tup [.int a, .int b]) v (by rw [hcall, hdfl]; exact h2)
  show execs C ir148 [.val (.tup [.int a, .int b]), .non] >>= fin = _
  unfold ir148
  have it2 : evI C (.Il (.v 0)) [.val (.tup [.int a, .int b]), .non] = M.ret [.int a, .int b] := rfl
  have s1 : ∀ d z, setTg (.n 1) d [.val (.tup [.int a, .int b]), z] = some [.val (.tup [.int a, .int b]), .val d] := fun _ _ => ss1
  cases u with
  | false =>
    rw [seq_ret (d := .bl false) (ρ' := [.val (.tup [.int a, .int b]), .val (.int a)])]
    · rfl
    · rw [ex_iff_t rfl, seq_ret (ex_fr it2 (forM_ret (s1 _ _) f1))]
  | true =>
    cases v with
    | false =>
      rw [seq_ret (d := .bl false) (ρ' := [.val (.tup [.int a, .int b]), .val (.int b)])]
      · rfl
      · rw [ex_iff_t rfl, seq_ret (ex_fr it2 ((forM_nx (s1 _ _) f1).trans (forM_ret (s1 _ _) f2)))]
    | true =>
      rw [seq_ret (d := .bl true) (ρ' := [.val (.tup [.int a, .int b]), .val (.int b)])]
      · rfl
      · rw [ex_iff_t rfl, seq_nx (ex_fr it2 ((forM_nx (s1 _ _) f1).trans ((forM_nx (s1 _ _) f2).trans forM_nil)))]
        rfl
/-! ### _law_same of a thing with itself -/
inductive Pl : Nat → D → Prop
  | non {n} : Pl n .non
  | int {n i} : Pl n (.int i)
  | str {n s} : Pl n (.str s)
  | tup {n ds} : (∀ d ∈ ds, Pl n d) → ds.length < 1000 → Pl (n + 1) (.tup ds)
  | lst {n ds} : (∀ d ∈ ds, Pl n d) → ds.length < 1000 → Pl (n + 1) (.lst ds)
theorem getD_nat {α : Type} {xs : List α} {j : Nat} (h : j < xs.length) : getD xs (j : Int) = xs[j]? := by
  unfold getD ixD
  rw [if_pos (by omega), if_pos (by omega)]
  rfl
theorem forM_inv {f : D → PL.Env → Option PL.Env} {b : MS} (I : PL.Env → Prop) : ∀ (xs : List D), (∀ x ∈ xs, ∀ ρ, I ρ → ∃ ρ1 ρ2, f x ρ = some ρ1 ∧ b ρ1 = M.ret (.nx, ρ2) ∧ I ρ2) → ∀ ρ, I ρ → ∃ ρ', forM f b xs ρ = M.ret (.nx, ρ') ∧ I ρ'
  | [], _, ρ, h => ⟨ρ, forM_nil, h⟩
  | x :: xs, hx, ρ, h => by
    obtain ⟨ρ1, ρ2, e1, e2, h2⟩ := hx x List.mem_cons_self ρ h
    obtain ⟨ρ', e3, h3⟩ := forM_inv I xs (fun y hy => hx y (List.mem_cons_of_mem _ hy)) ρ2 h2
    exact ⟨ρ', (forM_nx e1 e2).trans e3, h3⟩
def body260 : List PL.St := [.iff (.not_ (.call 260 0 [(.ix (.v 0) (.v 2)), (.ix (.v 1) (.v 2))])) [.ret (.c (.bl false))] []]
theorem rng_small {n : Nat} (h : n < 1000000) : rngOk (n : Int) = true := by
  unfold rngOk
  rw [decide_eq_true_eq]
  have e : (2 : Int) ^ 62 = 4611686018427387904 := by decide +kernel
  rw [e]
  omega
theorem evI_r1 {C : Cfg} {a : Ex} {ρ : PL.Env} {n : Int} (h : ev C a ρ = M.ret (.int n)) (hr : rngOk n = true) : evI C (.Ir1 a) ρ = M.ret (rngD 0 n) := by
  rw [evI, h, ret_bd]
  show (if rngOk n = true then pure _ else _) = _
  rw [if_pos hr]
  rfl
theorem same_tail {k : Nat} {d : D} {ds : List D} (hb : b1M .len d = M.ret (.int ds.length)) (hi : ∀ j : Nat, ixM d (.int j) = M.opt (getD ds j)) (hn : ds.length < 1000) (ih : ∀ x ∈ ds, callF pg k 260 [x, x] = M.ret (.bl true)) :
    execs (mkC pg (callF pg k)) [.fr (.n 2) (.Ir1 (.b1 .len (.v 1))) body260, .ret (.c (.bl true))] [.val d, .val d, .non] >>= fin = M.ret (.bl true) := by
  have hr : rngOk (ds.length : Int) = true := rng_small (by omega)
  have d1 : pg.dfl 260 0 = [] := rfl
  obtain ⟨ρ', e, y, e2⟩ := forM_inv (f := setTg (.n 2)) (b := execs (mkC pg (callF pg k)) body260) (fun ρ => ∃ y, ρ = [.val d, .val d, y]) (rngD 0 ds.length) (fun x hx ρ ⟨y, hρ⟩ => by
    unfold rngD at hx
    obtain ⟨j, hj, rfl⟩ := List.mem_map.mp hx
    have hj2 : j < ds.length := by have := List.mem_range.mp hj; omega
    subst hρ
    refine ⟨[.val d, .val d, .val (.int (0 + j))], [.val d, .val d, .val (.int (0 + j))], ss2, ?_, ⟨_, rfl⟩⟩
    have g : ixM d (.int (0 + (j : Int))) = M.ret ds[j] := by
      rw [Int.zero_add, hi, getD_nat hj2, List.getElem?_eq_getElem hj2]
      rfl
    have ij := ih ds[j] (List.getElem_mem hj2)
    unfold body260
    simp only [execs_nil, execs_cons, nxt_nx, exec, ev, evs, ret_bd, pur_bd, pur_ret, bd_bd, gs0, gs1, gs2, g, mkC_call, mkC_dfl, d1, List.append_nil, ij, truth, truthD, opS, Bool.not_true, Bool.false_eq_true, if_false]) [.val d, .val d, .non] ⟨_, rfl⟩
  subst e2
  rw [seq_nx (ρ' := [.val d, .val d, y]) ?_]
  · simp only [execs_nil, execs_cons, nxt_nx, nxt_ret, fin_nx, fin_ret, exec, ev, evs, evL_L, ret_bd, pur_bd, fai_bd, thr_bd, pur_ret, opS, opN, bd_bd, ite_bd, opIf, gs0, gs1, gs2, gs3, gs4, gs5, gs6, gs7, gs8, gs9, gs10, ss0, ss1, ss2, ss3, ss4, ss5, ss6, ss7, ss8, ss9, ss10, setTg, setTgs, Option.bind_some, Option.map_some, Option.map_none, truth, truthD, cmpD, cmpP, eqD, binP, isiM, isiAny, isiD, b1M, b1P, b2P, ixM, ixP, mkC_call, mkC_dfl, mkC_glo, mkC_sup, List.map, List.replicate, List.cons_append, List.nil_append, List.append_nil, Nat.reduceSub, List.reduceReplicate, Int.reduceLT, Int.reduceLE, Int.reduceEq, if_true, if_false, Bool.or_false, Bool.or_true, Bool.false_eq_true, Bool.not_true, Bool.not_false, Bool.true_and, Bool.and_true, decide_eq_true_eq]
  · refine ex_fr (evI_r1 ?_ hr) e
    rw [ev, ev, gs1, ret_bd, hb]
theorem same1 : ∀ (n : Nat) (d : D), Pl n d → ∀ k, callF pg (k + 2 + n) 260 [d, d] = M.ret (.bl true) := by
  intro n
  induction n with
  | zero =>
    intro d h k
    rw [callS (k := k + 1) (d := ⟨2, 3, ir260⟩) rfl rfl]
    have d1 : pg.dfl 170 0 = [] := rfl
    cases h with
    | non => rfl
    | int => simp only [execs_nil, execs_cons, nxt_nx, nxt_ret, fin_nx, fin_ret, exec, ev, evs, evL_L, ret_bd, pur_bd, fai_bd, thr_bd, pur_ret, opS, opN, bd_bd, ite_bd, opIf, gs0, gs1, gs2, gs3, gs4, gs5, gs6, gs7, gs8, gs9, gs10, ss0, ss1, ss2, ss3, ss4, ss5, ss6, ss7, ss8, ss9, ss10, setTg, setTgs, Option.bind_some, Option.map_some, Option.map_none, truth, truthD, cmpD, cmpP, eqD, binP, isiM, isiAny, isiD, b1M, b1P, b2P, ixM, ixP, mkC_call, mkC_dfl, mkC_glo, mkC_sup, List.map, List.replicate, List.cons_append, List.nil_append, List.append_nil, Nat.reduceSub, List.reduceReplicate, Int.reduceLT, Int.reduceLE, Int.reduceEq, if_true, if_false, Bool.or_false, Bool.or_true, Bool.false_eq_true, Bool.not_true, Bool.not_false, Bool.true_and, Bool.and_true, decide_eq_true_eq, ir260, isNon, d1, v1, decide_true]
    | str => simp only [execs_nil, execs_cons, nxt_nx, nxt_ret, fin_nx, fin_ret, exec, ev, evs, evL_L, ret_bd, pur_bd, fai_bd, thr_bd, pur_ret, opS, opN, bd_bd, ite_bd, opIf, gs0, gs1, gs2, gs3, gs4, gs5, gs6, gs7, gs8, gs9, gs10, ss0, ss1, ss2, ss3, ss4, ss5, ss6, ss7, ss8, ss9, ss10, setTg, setTgs, Option.bind_some, Option.map_some, Option.map_none, truth, truthD, cmpD, cmpP, eqD, binP, isiM, isiAny, isiD, b1M, b1P, b2P, ixM, ixP, mkC_call, mkC_dfl, mkC_glo, mkC_sup, List.map, List.replicate, List.cons_append, List.nil_append, List.append_nil, Nat.reduceSub, List.reduceReplicate, Int.reduceLT, Int.reduceLE, Int.reduceEq, if_true, if_false, Bool.or_false, Bool.or_true, Bool.false_eq_true, Bool.not_true, Bool.not_false, Bool.true_and, Bool.and_true, decide_eq_true_eq, ir260, isNon, decide_true]
  | succ n ih =>
    intro d h k
    show callF pg (k + 2 + n + 1) 260 [d, d] = _
    rw [callS (k := k + 2 + n) (d := ⟨2, 3, ir260⟩) rfl rfl]
    have d1 : pg.dfl 170 0 = [] := rfl
    cases h with
    | non => rfl
    | int => 
      have v := v1 (k + 1 + n)
      rw [show k + 1 + n + 1 = k + 2 + n from by omega] at v
      simp only [execs_nil, execs_cons, nxt_nx, nxt_ret, fin_nx, fin_ret, exec, ev, evs, evL_L, ret_bd, pur_bd, fai_bd, thr_bd, pur_ret, opS, opN, bd_bd, ite_bd, opIf, gs0, gs1, gs2, gs3, gs4, gs5, gs6, gs7, gs8, gs9, gs10, ss0, ss1, ss2, ss3, ss4, ss5, ss6, ss7, ss8, ss9, ss10, setTg, setTgs, Option.bind_some, Option.map_some, Option.map_none, truth, truthD, cmpD, cmpP, eqD, binP, isiM, isiAny, isiD, b1M, b1P, b2P, ixM, ixP, mkC_call, mkC_dfl, mkC_glo, mkC_sup, List.map, List.replicate, List.cons_append, List.nil_append, List.append_nil, Nat.reduceSub, List.reduceReplicate, Int.reduceLT, Int.reduceLE, Int.reduceEq, if_true, if_false, Bool.or_false, Bool.or_true, Bool.false_eq_true, Bool.not_true, Bool.not_false, Bool.true_and, Bool.and_true, decide_eq_true_eq, ir260, isNon, d1, v, decide_true]
    | str => simp only [execs_nil, execs_cons, nxt_nx, nxt_ret, fin_nx, fin_ret, exec, ev, evs, evL_L, ret_bd, pur_bd, fai_bd, thr_bd, pur_ret, opS, opN, bd_bd, ite_bd, opIf, gs0, gs1, gs2, gs3, gs4, gs5, gs6, gs7, gs8, gs9, gs10, ss0, ss1, ss2, ss3, ss4, ss5, ss6, ss7, ss8, ss9, ss10, setTg, setTgs, Option.bind_some, Option.map_some, Option.map_none, truth, truthD, cmpD, cmpP, eqD, binP, isiM, isiAny, isiD, b1M, b1P, b2P, ixM, ixP, mkC_call, mkC_dfl, mkC_glo, mkC_sup, List.map, List.replicate, List.cons_append, List.nil_append, List.append_nil, Nat.reduceSub, List.reduceReplicate, Int.reduceLT, Int.reduceLE, Int.reduceEq, if_true, if_false, Bool.or_false, Bool.or_true, Bool.false_eq_true, Bool.not_true, Bool.not_false, Bool.true_and, Bool.and_true, decide_eq_true_eq, ir260, isNon, decide_true]
    | @tup _ ds hd hl =>
      have t := same_tail (k := k + 2 + n) (d := .tup ds) (ds := ds) rfl (fun j => rfl) hl (fun x hx => ih x (hd x hx) k)
      show execs _ ir260 [.val (.tup ds), .val (.tup ds), .non] >>= fin = _
      unfold ir260
      have lne : ¬ ((ds.length : Int) ≠ ds.length) := fun z => z rfl
      rw [seq_nx (ρ' := [.val (.tup ds), .val (.tup ds), .non]) (by simp only [execs_nil, execs_cons, nxt_nx, nxt_ret, fin_nx, fin_ret, exec, ev, evs, evL_L, ret_bd, pur_bd, fai_bd, thr_bd, pur_ret, opS, opN, bd_bd, ite_bd, opIf, gs0, gs1, gs2, gs3, gs4, gs5, gs6, gs7, gs8, gs9, gs10, ss0, ss1, ss2, ss3, ss4, ss5, ss6, ss7, ss8, ss9, ss10, setTg, setTgs, Option.bind_some, Option.map_some, Option.map_none, truth, truthD, cmpD, cmpP, eqD, binP, isiM, isiAny, isiD, b1M, b1P, b2P, ixM, ixP, mkC_call, mkC_dfl, mkC_glo, mkC_sup, List.map, List.replicate, List.cons_append, List.nil_append, List.append_nil, Nat.reduceSub, List.reduceReplicate, Int.reduceLT, Int.reduceLE, Int.reduceEq, if_true, if_false, Bool.or_false, Bool.or_true, Bool.false_eq_true, Bool.not_true, Bool.not_false, Bool.true_and, Bool.and_true, decide_eq_true_eq, isNon]), seq_nx (ρ' := [.val (.tup ds), .val (.tup ds), .non]) (by simp only [execs_nil, execs_cons, nxt_nx, nxt_ret, fin_nx, fin_ret, exec, ev, evs, evL_L, ret_bd, pur_bd, fai_bd, thr_bd, pur_ret, opS, opN, bd_bd, ite_bd, opIf, gs0, gs1, gs2, gs3, gs4, gs5, gs6, gs7, gs8, gs9, gs10, ss0, ss1, ss2, ss3, ss4, ss5, ss6, ss7, ss8, ss9, ss10, setTg, setTgs, Option.bind_some, Option.map_some, Option.map_none, truth, truthD, cmpD, cmpP, eqD, binP, isiM, isiAny, isiD, b1M, b1P, b2P, ixM, ixP, mkC_call, mkC_dfl, mkC_glo, mkC_sup, List.map, List.replicate, List.cons_append, List.nil_append, List.append_nil, Nat.reduceSub, List.reduceReplicate, Int.reduceLT, Int.reduceLE, Int.reduceEq, if_true, if_false, Bool.or_false, Bool.or_true, Bool.false_eq_true, Bool.not_true, Bool.not_false, Bool.true_and, Bool.and_true, decide_eq_true_eq]), seq_nx (ρ' := [.val (.tup ds), .val (.tup ds), .non]) (by simp only [execs_nil, execs_cons, nxt_nx, nxt_ret, fin_nx, fin_ret, exec, ev, evs, evL_L, ret_bd, pur_bd, fai_bd, thr_bd, pur_ret, opS, opN, bd_bd, ite_bd, opIf, gs0, gs1, gs2, gs3, gs4, gs5, gs6, gs7, gs8, gs9, gs10, ss0, ss1, ss2, ss3, ss4, ss5, ss6, ss7, ss8, ss9, ss10, setTg, setTgs, Option.bind_some, Option.map_some, Option.map_none, truth, truthD, cmpD, cmpP, eqD, binP, isiM, isiAny, isiD, b1M, b1P, b2P, ixM, ixP, mkC_call, mkC_dfl, mkC_glo, mkC_sup, List.map, List.replicate, List.cons_append, List.nil_append, List.append_nil, Nat.reduceSub, List.reduceReplicate, Int.reduceLT, Int.reduceLE, Int.reduceEq, if_true, if_false, Bool.or_false, Bool.or_true, Bool.false_eq_true, Bool.not_true, Bool.not_false, Bool.true_and, Bool.and_true, decide_eq_true_eq]), seq_nx (ρ' := [.val (.tup ds), .val (.tup ds), .non]) (by simp only [execs_nil, execs_cons, nxt_nx, nxt_ret, fin_nx, fin_ret, exec, ev, evs, evL_L, ret_bd, pur_bd, fai_bd, thr_bd, pur_ret, opS, opN, bd_bd, ite_bd, opIf, gs0, gs1, gs2, gs3, gs4, gs5, gs6, gs7, gs8, gs9, gs10, ss0, ss1, ss2, ss3, ss4, ss5, ss6, ss7, ss8, ss9, ss10, setTg, setTgs, Option.bind_some, Option.map_some, Option.map_none, truth, truthD, cmpD, cmpP, eqD, binP, isiM, isiAny, isiD, b1M, b1P, b2P, ixM, ixP, mkC_call, mkC_dfl, mkC_glo, mkC_sup, List.map, List.replicate, List.cons_append, List.nil_append, List.append_nil, Nat.reduceSub, List.reduceReplicate, Int.reduceLT, Int.reduceLE, Int.reduceEq, if_true, if_false, Bool.or_false, Bool.or_true, Bool.false_eq_true, Bool.not_true, Bool.not_false, Bool.true_and, Bool.and_true, decide_eq_true_eq]), seq_nx (ρ' := [.val (.tup ds), .val (.tup ds), .non]) (by simp only [execs_nil, execs_cons, nxt_nx, nxt_ret, fin_nx, fin_ret, exec, ev, evs, evL_L, ret_bd, pur_bd, fai_bd, thr_bd, pur_ret, opS, opN, bd_bd, ite_bd, opIf, gs0, gs1, gs2, gs3, gs4, gs5, gs6, gs7, gs8, gs9, gs10, ss0, ss1, ss2, ss3, ss4, ss5, ss6, ss7, ss8, ss9, ss10, setTg, setTgs, Option.bind_some, Option.map_some, Option.map_none, truth, truthD, cmpD, cmpP, eqD, binP, isiM, isiAny, isiD, b1M, b1P, b2P, ixM, ixP, mkC_call, mkC_dfl, mkC_glo, mkC_sup, List.map, List.replicate, List.cons_append, List.nil_append, List.append_nil, Nat.reduceSub, List.reduceReplicate, Int.reduceLT, Int.reduceLE, Int.reduceEq, if_true, if_false, Bool.or_false, Bool.or_true, Bool.false_eq_true, Bool.not_true, Bool.not_false, Bool.true_and, Bool.and_true, decide_eq_true_eq]), seq_nx (ρ' := [.val (.tup ds), .val (.tup ds), .non]) (by simp only [execs_nil, execs_cons, nxt_nx, nxt_ret, fin_nx, fin_ret, exec, ev, evs, evL_L, ret_bd, pur_bd, fai_bd, thr_bd, pur_ret, opS, opN, bd_bd, ite_bd, opIf, gs0, gs1, gs2, gs3, gs4, gs5, gs6, gs7, gs8, gs9, gs10, ss0, ss1, ss2, ss3, ss4, ss5, ss6, ss7, ss8, ss9, ss10, setTg, setTgs, Option.bind_some, Option.map_some, Option.map_none, truth, truthD, cmpD, cmpP, eqD, binP, isiM, isiAny, isiD, b1M, b1P, b2P, ixM, ixP, mkC_call, mkC_dfl, mkC_glo, mkC_sup, List.map, List.replicate, List.cons_append, List.nil_append, List.append_nil, Nat.reduceSub, List.reduceReplicate, Int.reduceLT, Int.reduceLE, Int.reduceEq, if_true, if_false, Bool.or_false, Bool.or_true, Bool.false_eq_true, Bool.not_true, Bool.not_false, Bool.true_and, Bool.and_true, decide_eq_true_eq]), seq_nx (ρ' := [.val (.tup ds), .val (.tup ds), .non]) (by simp only [execs_nil, execs_cons, nxt_nx, nxt_ret, fin_nx, fin_ret, exec, ev, evs, evL_L, ret_bd, pur_bd, fai_bd, thr_bd, pur_ret, opS, opN, bd_bd, ite_bd, opIf, gs0, gs1, gs2, gs3, gs4, gs5, gs6, gs7, gs8, gs9, gs10, ss0, ss1, ss2, ss3, ss4, ss5, ss6, ss7, ss8, ss9, ss10, setTg, setTgs, Option.bind_some, Option.map_some, Option.map_none, truth, truthD, cmpD, cmpP, eqD, binP, isiM, isiAny, isiD, b1M, b1P, b2P, ixM, ixP, mkC_call, mkC_dfl, mkC_glo, mkC_sup, List.map, List.replicate, List.cons_append, List.nil_append, List.append_nil, Nat.reduceSub, List.reduceReplicate, Int.reduceLT, Int.reduceLE, Int.reduceEq, if_true, if_false, Bool.or_false, Bool.or_true, Bool.false_eq_true, Bool.not_true, Bool.not_false, Bool.true_and, Bool.and_true, decide_eq_true_eq]), seq_nx (ρ' := [.val (.tup ds), .val (.tup ds), .non]) (by simp only [execs_nil, execs_cons, nxt_nx, nxt_ret, fin_nx, fin_ret, exec, ev, evs, evL_L, ret_bd, pur_bd, fai_bd, thr_bd, pur_ret, opS, opN, bd_bd, ite_bd, opIf, gs0, gs1, gs2, gs3, gs4, gs5, gs6, gs7, gs8, gs9, gs10, ss0, ss1, ss2, ss3, ss4, ss5, ss6, ss7, ss8, ss9, ss10, setTg, setTgs, Option.bind_some, Option.map_some, Option.map_none, truth, truthD, cmpD, cmpP, eqD, binP, isiM, isiAny, isiD, b1M, b1P, b2P, ixM, ixP, mkC_call, mkC_dfl, mkC_glo, mkC_sup, List.map, List.replicate, List.cons_append, List.nil_append, List.append_nil, Nat.reduceSub, List.reduceReplicate, Int.reduceLT, Int.reduceLE, Int.reduceEq, if_true, if_false, Bool.or_false, Bool.or_true, Bool.false_eq_true, Bool.not_true, Bool.not_false, Bool.true_and, Bool.and_true, decide_eq_true_eq, decide_true])]
      exact t
    | @lst _ ds hd hl =>
      have t := same_tail (k := k + 2 + n) (d := .lst ds) (ds := ds) rfl (fun j => rfl) hl (fun x hx => ih x (hd x hx) k)
      show execs _ ir260 [.val (.lst ds), .val (.lst ds), .non] >>= fin = _
      unfold ir260
      rw [seq_nx (ρ' := [.val (.lst ds), .val (.lst ds), .non]) (by simp only [execs_nil, execs_cons, nxt_nx, nxt_ret, fin_nx, fin_ret, exec, ev, evs, evL_L, ret_bd, pur_bd, fai_bd, thr_bd, pur_ret, opS, opN, bd_bd, ite_bd, opIf, gs0, gs1, gs2, gs3, gs4, gs5, gs6, gs7, gs8, gs9, gs10, ss0, ss1, ss2, ss3, ss4, ss5, ss6, ss7, ss8, ss9, ss10, setTg, setTgs, Option.bind_some, Option.map_some, Option.map_none, truth, truthD, cmpD, cmpP, eqD, binP, isiM, isiAny, isiD, b1M, b1P, b2P, ixM, ixP, mkC_call, mkC_dfl, mkC_glo, mkC_sup, List.map, List.replicate, List.cons_append, List.nil_append, List.append_nil, Nat.reduceSub, List.reduceReplicate, Int.reduceLT, Int.reduceLE, Int.reduceEq, if_true, if_false, Bool.or_false, Bool.or_true, Bool.false_eq_true, Bool.not_true, Bool.not_false, Bool.true_and, Bool.and_true, decide_eq_true_eq, isNon]), seq_nx (ρ' := [.val (.lst ds), .val (.lst ds), .non]) (by simp only [execs_nil, execs_cons, nxt_nx, nxt_ret, fin_nx, fin_ret, exec, ev, evs, evL_L, ret_bd, pur_bd, fai_bd, thr_bd, pur_ret, opS, opN, bd_bd, ite_bd, opIf, gs0, gs1, gs2, gs3, gs4, gs5, gs6, gs7, gs8, gs9, gs10, ss0, ss1, ss2, ss3, ss4, ss5, ss6, ss7, ss8, ss9, ss10, setTg, setTgs, Option.bind_some, Option.map_some, Option.map_none, truth, truthD, cmpD, cmpP, eqD, binP, isiM, isiAny, isiD, b1M, b1P, b2P, ixM, ixP, mkC_call, mkC_dfl, mkC_glo, mkC_sup, List.map, List.replicate, List.cons_append, List.nil_append, List.append_nil, Nat.reduceSub, List.reduceReplicate, Int.reduceLT, Int.reduceLE, Int.reduceEq, if_true, if_false, Bool.or_false, Bool.or_true, Bool.false_eq_true, Bool.not_true, Bool.not_false, Bool.true_and, Bool.and_true, decide_eq_true_eq]), seq_nx (ρ' := [.val (.lst ds), .val (.lst ds), .non]) (by simp only [execs_nil, execs_cons, nxt_nx, nxt_ret, fin_nx, fin_ret, exec, ev, evs, evL_L, ret_bd, pur_bd, fai_bd, thr_bd, pur_ret, opS, opN, bd_bd, ite_bd, opIf, gs0, gs1, gs2, gs3, gs4, gs5, gs6, gs7, gs8, gs9, gs10, ss0, ss1, ss2, ss3, ss4, ss5, ss6, ss7, ss8, ss9, ss10, setTg, setTgs, Option.bind_some, Option.map_some, Option.map_none, truth, truthD, cmpD, cmpP, eqD, binP, isiM, isiAny, isiD, b1M, b1P, b2P, ixM, ixP, mkC_call, mkC_dfl, mkC_glo, mkC_sup, List.map, List.replicate, List.cons_append, List.nil_append, List.append_nil, Nat.reduceSub, List.reduceReplicate, Int.reduceLT, Int.reduceLE, Int.reduceEq, if_true, if_false, Bool.or_false, Bool.or_true, Bool.false_eq_true, Bool.not_true, Bool.not_false, Bool.true_and, Bool.and_true, decide_eq_true_eq]), seq_nx (ρ' := [.val (.lst ds), .val (.lst ds), .non]) (by simp only [execs_nil, execs_cons, nxt_nx, nxt_ret, fin_nx, fin_ret, exec, ev, evs, evL_L, ret_bd, pur_bd, fai_bd, thr_bd, pur_ret, opS, opN, bd_bd, ite_bd, opIf, gs0, gs1, gs2, gs3, gs4, gs5, gs6, gs7, gs8, gs9, gs10, ss0, ss1, ss2, ss3, ss4, ss5, ss6, ss7, ss8, ss9, ss10, setTg, setTgs, Option.bind_some, Option.map_some, Option.map_none, truth, truthD, cmpD, cmpP, eqD, binP, isiM, isiAny, isiD, b1M, b1P, b2P, ixM, ixP, mkC_call, mkC_dfl, mkC_glo, mkC_sup, List.map, List.replicate, List.cons_append, List.nil_append, List.append_nil, Nat.reduceSub, List.reduceReplicate, Int.reduceLT, Int.reduceLE, Int.reduceEq, if_true, if_false, Bool.or_false, Bool.or_true, Bool.false_eq_true, Bool.not_true, Bool.not_false, Bool.true_and, Bool.and_true, decide_eq_true_eq]), seq_nx (ρ' := [.val (.lst ds), .val (.lst ds), .non]) (by simp only [execs_nil, execs_cons, nxt_nx, nxt_ret, fin_nx, fin_ret, exec, ev, evs, evL_L, ret_bd, pur_bd, fai_bd, thr_bd, pur_ret, opS, opN, bd_bd, ite_bd, opIf, gs0, gs1, gs2, gs3, gs4, gs5, gs6, gs7, gs8, gs9, gs10, ss0, ss1, ss2, ss3, ss4, ss5, ss6, ss7, ss8, ss9, ss10, setTg, setTgs, Option.bind_some, Option.map_some, Option.map_none, truth, truthD, cmpD, cmpP, eqD, binP, isiM, isiAny, isiD, b1M, b1P, b2P, ixM, ixP, mkC_call, mkC_dfl, mkC_glo, mkC_sup, List.map, List.replicate, List.cons_append, List.nil_append, List.append_nil, Nat.reduceSub, List.reduceReplicate, Int.reduceLT, Int.reduceLE, Int.reduceEq, if_true, if_false, Bool.or_false, Bool.or_true, Bool.false_eq_true, Bool.not_true, Bool.not_false, Bool.true_and, Bool.and_true, decide_eq_true_eq]), seq_nx (ρ' := [.val (.lst ds), .val (.lst ds), .non]) (by simp only [execs_nil, execs_cons, nxt_nx, nxt_ret, fin_nx, fin_ret, exec, ev, evs, evL_L, ret_bd, pur_bd, fai_bd, thr_bd, pur_ret, opS, opN, bd_bd, ite_bd, opIf, gs0, gs1, gs2, gs3, gs4, gs5, gs6, gs7, gs8, gs9, gs10, ss0, ss1, ss2, ss3, ss4, ss5, ss6, ss7, ss8, ss9, ss10, setTg, setTgs, Option.bind_some, Option.map_some, Option.map_none, truth, truthD, cmpD, cmpP, eqD, binP, isiM, isiAny, isiD, b1M, b1P, b2P, ixM, ixP, mkC_call, mkC_dfl, mkC_glo, mkC_sup, List.map, List.replicate, List.cons_append, List.nil_append, List.append_nil, Nat.reduceSub, List.reduceReplicate, Int.reduceLT, Int.reduceLE, Int.reduceEq, if_true, if_false, Bool.or_false, Bool.or_true, Bool.false_eq_true, Bool.not_true, Bool.not_false, Bool.true_and, Bool.and_true, decide_eq_true_eq]), seq_nx (ρ' := [.val (.lst ds), .val (.lst ds), .non]) (by simp only [execs_nil, execs_cons, nxt_nx, nxt_ret, fin_nx, fin_ret, exec, ev, evs, evL_L, ret_bd, pur_bd, fai_bd, thr_bd, pur_ret, opS, opN, bd_bd, ite_bd, opIf, gs0, gs1, gs2, gs3, gs4, gs5, gs6, gs7, gs8, gs9, gs10, ss0, ss1, ss2, ss3, ss4, ss5, ss6, ss7, ss8, ss9, ss10, setTg, setTgs, Option.bind_some, Option.map_some, Option.map_none, truth, truthD, cmpD, cmpP, eqD, binP, isiM, isiAny, isiD, b1M, b1P, b2P, ixM, ixP, mkC_call, mkC_dfl, mkC_glo, mkC_sup, List.map, List.replicate, List.cons_append, List.nil_append, List.append_nil, Nat.reduceSub, List.reduceReplicate, Int.reduceLT, Int.reduceLE, Int.reduceEq, if_true, if_false, Bool.or_false, Bool.or_true, Bool.false_eq_true, Bool.not_true, Bool.not_false, Bool.true_and, Bool.and_true, decide_eq_true_eq]), seq_nx (ρ' := [.val (.lst ds), .val (.lst ds), .non]) (by simp only [execs_nil, execs_cons, nxt_nx, nxt_ret, fin_nx, fin_ret, exec, ev, evs, evL_L, ret_bd, pur_bd, fai_bd, thr_bd, pur_ret, opS, opN, bd_bd, ite_bd, opIf, gs0, gs1, gs2, gs3, gs4, gs5, gs6, gs7, gs8, gs9, gs10, ss0, ss1, ss2, ss3, ss4, ss5, ss6, ss7, ss8, ss9, ss10, setTg, setTgs, Option.bind_some, Option.map_some, Option.map_none, truth, truthD, cmpD, cmpP, eqD, binP, isiM, isiAny, isiD, b1M, b1P, b2P, ixM, ixP, mkC_call, mkC_dfl, mkC_glo, mkC_sup, List.map, List.replicate, List.cons_append, List.nil_append, List.append_nil, Nat.reduceSub, List.reduceReplicate, Int.reduceLT, Int.reduceLE, Int.reduceEq, if_true, if_false, Bool.or_false, Bool.or_true, Bool.false_eq_true, Bool.not_true, Bool.not_false, Bool.true_and, Bool.and_true, decide_eq_true_eq, decide_true])]
      exact t
end PL.k71
end
section
set_option Elab.async false
set_option linter.all false
set_option maxRecDepth 100000
/-! K71C6: powers written and read back. -/
namespace PL.k71
open PySem PL
open SX _root_.TL
abbrev fr (x y : Int) : D := .tup [.int x, .int y]
theorem pl_fr {x y : Int} : Pl 1 (fr x y) := .tup (fun d hd => by
  rcases List.mem_cons.mp hd with e | e
  · rw [e]; exact .int
  · rw [List.mem_singleton.mp e]; exact .int) (by simp)
theorem isF_pow {a b : Int} (h : isF a b = true) (e : Nat) : isF (a ^ e) (b ^ e) = true := by
  obtain ⟨h1, h2⟩ := isF_iff.mp h
  refine isF_iff.mpr ⟨?_, ?_⟩
  · obtain ⟨n, rfl⟩ := Int.eq_ofNat_of_zero_le (by omega : 0 ≤ b)
    rw [← Int.natCast_pow]
    have : 0 < n ^ e := Nat.pow_pos (by omega)
    omega
  · have h2 : Nat.Coprime a.natAbs b.natAbs := h2
    show Nat.gcd (a ^ e).natAbs (b ^ e).natAbs = 1
    rw [Int.natAbs_pow, Int.natAbs_pow]
    exact Nat.Coprime.pow e e h2
theorem big_lt : big < 2 ^ 16000 := by rw [big_eq]; decide +kernel
theorem pow_lt {n e : Nat} (h : n < N40) (he : e ≤ 96) : n ^ e < big := by
  rw [N40_eq] at h
  rw [big_eq]
  have h1 : n ^ e ≤ (10 ^ 40) ^ e := Nat.pow_le_pow_left (Nat.le_of_lt h) e
  rw [← Nat.pow_mul] at h1
  have h2 : (10 : Nat) ^ (40 * e) ≤ 10 ^ 3840 := Nat.pow_le_pow_right (by decide) (by omega)
  have h3 : (10 : Nat) ^ 3840 < 10 ^ 4300 := Nat.pow_lt_pow_right (by decide) (by decide)
  exact Nat.lt_of_le_of_lt (Nat.le_trans h1 h2) h3
theorem ipow_lt {n : Int} {e : Nat} (h : n.natAbs < N40) (he : e ≤ 96) : (n ^ e).natAbs < big := by
  rw [Int.natAbs_pow]
  exact pow_lt h he
theorem mul_big {x y : Int} (hx : x.natAbs < big) (hy : y.natAbs < big) : mulOk x y = true := mulOk_of 16000 16000 (Nat.lt_trans hx big_lt) (Nat.lt_trans hy big_lt) (by decide)
theorem ex_set {C : Cfg} {i : Nat} {e : Ex} {d : D} {ρ ρ' : PL.Env} (h : ev C e ρ = M.ret d) (hs : setSl ρ i d = some ρ') : exec C (.set i e) ρ = M.ret (.nx, ρ') := by
  rw [exec, h, ret_bd, hs]
  rfl
theorem ev_ite_t {C : Cfg} {t a b : Ex} {ρ : PL.Env} {d : D} (h : ev C t ρ = M.ret (.bl true)) (ha : ev C a ρ = M.ret d) : ev C (.ite t a b) ρ = M.ret d := by
  rw [ev, h]
  exact ha
theorem ev_ite_f {C : Cfg} {t a b : Ex} {ρ : PL.Env} {d : D} (h : ev C t ρ = M.ret (.bl false)) (ha : ev C b ρ = M.ret d) : ev C (.ite t a b) ρ = M.ret d := by
  rw [ev, h]
  exact ha
theorem ev_call {C : Cfg} {f j : Nat} {es : List Ex} {ρ : PL.Env} {ds : List D} {r : M D} (h : evs C es ρ = M.ret ds) (hc : C.call f (ds ++ C.dfl f j) = r) : ev C (.call f j es) ρ = r := by
  rw [ev, h, ret_bd, hc]
def b331 : List PL.St := [.set 5 (.call 407 0 [(.v 2)]),
  .iff (.not_ (.call 260 0 [(.v 5), (.call 155 0 [(.v 2)])])) [.ret (.c (.bl false))] [],
  .set 6 (.ite (.call 148 0 [(.v 2)]) (.v 2) (.c (.non))),
  .iff (.not_ (.call 260 0 [(.call 406 0 [(.v 5)]), (.v 6)])) [.ret (.c (.bl false))] [],
  .iff (.cmp .Lt (.bin .Add (.v 4) (.c (.int 1))) (.v 1)) [.set 7 (.ite (.cmp .Eq (.v 4) (.c (.int 6))) (.v 3) (.v 2)),
  .set 6 (.call 301 0 [(.v 2), (.v 7)]),
  .par 3 2 (.v 2) (.call 522 0 [(.v 2), (.v 7)]),
  .iff (.not_ (.call 260 0 [(.v 2), (.v 6)])) [.ret (.c (.bl false))] []] []]
/-- the part of a turn that is always gone -/
theorem itA {G : Nat → List D → M D} {V x3 x6 x7 : Sl} {x5 : Sl} {m j : Int} {F dd : D} {W : List Nat} {c : Bool} (w1 : G 407 [F] = M.ret (.str W)) (w2 : G 155 [F] = M.ret (.str W)) (sw : G 260 [.str W, .str W] = M.ret (.bl true))
    (ft : G 148 [F] = M.ret (.bl c)) (fo : G 406 [.str W] = M.ret dd) (sd : G 260 [dd, dd] = M.ret (.bl true)) (hd : dd = if c then F else .non) :
    execs (mkC pg G) b331 [V, .val (.int m), .val F, x3, .val (.int j), x5, x6, x7] = execs (mkC pg G) (b331.drop 4) [V, .val (.int m), .val F, x3, .val (.int j), .val (.str W), .val dd, x7] := by
  have d1 : pg.dfl 407 0 = [] := rfl
  have d2 : pg.dfl 260 0 = [] := rfl
  have d3 : pg.dfl 155 0 = [] := rfl
  have d4 : pg.dfl 148 0 = [] := rfl
  have d5 : pg.dfl 406 0 = [] := rfl
  unfold b331
  rw [seq_nx (ρ' := [V, .val (.int m), .val F, x3, .val (.int j), .val (.str W), x6, x7]) (by simp only [execs_nil, execs_cons, nxt_nx, nxt_ret, fin_nx, fin_ret, exec, ev, evs, evL_L, ret_bd, pur_bd, fai_bd, thr_bd, pur_ret, opS, opN, bd_bd, ite_bd, opIf, gs0, gs1, gs2, gs3, gs4, gs5, gs6, gs7, gs8, gs9, gs10, ss0, ss1, ss2, ss3, ss4, ss5, ss6, ss7, ss8, ss9, ss10, setTg, setTgs, Option.bind_some, Option.map_some, Option.map_none, truth, truthD, cmpD, cmpP, eqD, binP, isiM, isiAny, isiD, b1M, b1P, b2P, ixM, ixP, mkC_call, mkC_dfl, mkC_glo, mkC_sup, List.map, List.replicate, List.cons_append, List.nil_append, List.append_nil, Nat.reduceSub, List.reduceReplicate, Int.reduceLT, Int.reduceLE, Int.reduceEq, if_true, if_false, Bool.or_false, Bool.or_true, Bool.false_eq_true, Bool.not_true, Bool.not_false, Bool.true_and, Bool.and_true, decide_eq_true_eq, d1, w1]),
    seq_nx (ρ' := [V, .val (.int m), .val F, x3, .val (.int j), .val (.str W), x6, x7]) (by simp only [execs_nil, execs_cons, nxt_nx, nxt_ret, fin_nx, fin_ret, exec, ev, evs, evL_L, ret_bd, pur_bd, fai_bd, thr_bd, pur_ret, opS, opN, bd_bd, ite_bd, opIf, gs0, gs1, gs2, gs3, gs4, gs5, gs6, gs7, gs8, gs9, gs10, ss0, ss1, ss2, ss3, ss4, ss5, ss6, ss7, ss8, ss9, ss10, setTg, setTgs, Option.bind_some, Option.map_some, Option.map_none, truth, truthD, cmpD, cmpP, eqD, binP, isiM, isiAny, isiD, b1M, b1P, b2P, ixM, ixP, mkC_call, mkC_dfl, mkC_glo, mkC_sup, List.map, List.replicate, List.cons_append, List.nil_append, List.append_nil, Nat.reduceSub, List.reduceReplicate, Int.reduceLT, Int.reduceLE, Int.reduceEq, if_true, if_false, Bool.or_false, Bool.or_true, Bool.false_eq_true, Bool.not_true, Bool.not_false, Bool.true_and, Bool.and_true, decide_eq_true_eq, d2, d3, w2, sw]),
    seq_nx (ρ' := [V, .val (.int m), .val F, x3, .val (.int j), .val (.str W), .val dd, x7]) (by
      subst hd
      cases c <;> simp only [execs_nil, execs_cons, nxt_nx, nxt_ret, fin_nx, fin_ret, exec, ev, evs, evL_L, ret_bd, pur_bd, fai_bd, thr_bd, pur_ret, opS, opN, bd_bd, ite_bd, opIf, gs0, gs1, gs2, gs3, gs4, gs5, gs6, gs7, gs8, gs9, gs10, ss0, ss1, ss2, ss3, ss4, ss5, ss6, ss7, ss8, ss9, ss10, setTg, setTgs, Option.bind_some, Option.map_some, Option.map_none, truth, truthD, cmpD, cmpP, eqD, binP, isiM, isiAny, isiD, b1M, b1P, b2P, ixM, ixP, mkC_call, mkC_dfl, mkC_glo, mkC_sup, List.map, List.replicate, List.cons_append, List.nil_append, List.append_nil, Nat.reduceSub, List.reduceReplicate, Int.reduceLT, Int.reduceLE, Int.reduceEq, if_true, if_false, Bool.or_false, Bool.or_true, Bool.false_eq_true, Bool.not_true, Bool.not_false, Bool.true_and, Bool.and_true, decide_eq_true_eq, d4, ft]),
    seq_nx (ρ' := [V, .val (.int m), .val F, x3, .val (.int j), .val (.str W), .val dd, x7]) (by simp only [execs_nil, execs_cons, nxt_nx, nxt_ret, fin_nx, fin_ret, exec, ev, evs, evL_L, ret_bd, pur_bd, fai_bd, thr_bd, pur_ret, opS, opN, bd_bd, ite_bd, opIf, gs0, gs1, gs2, gs3, gs4, gs5, gs6, gs7, gs8, gs9, gs10, ss0, ss1, ss2, ss3, ss4, ss5, ss6, ss7, ss8, ss9, ss10, setTg, setTgs, Option.bind_some, Option.map_some, Option.map_none, truth, truthD, cmpD, cmpP, eqD, binP, isiM, isiAny, isiD, b1M, b1P, b2P, ixM, ixP, mkC_call, mkC_dfl, mkC_glo, mkC_sup, List.map, List.replicate, List.cons_append, List.nil_append, List.append_nil, Nat.reduceSub, List.reduceReplicate, Int.reduceLT, Int.reduceLE, Int.reduceEq, if_true, if_false, Bool.or_false, Bool.or_true, Bool.false_eq_true, Bool.not_true, Bool.not_false, Bool.true_and, Bool.and_true, decide_eq_true_eq, d2, d5, fo, sd])]
  rfl
/-- the last turn's rest -/
theorem itB {G : Nat → List D → M D} {V x2 x3 x5 x6 x7 : Sl} {m j : Int} (hlt : ¬ j + 1 < m) : execs (mkC pg G) (b331.drop 4) [V, .val (.int m), x2, x3, .val (.int j), x5, x6, x7] = M.ret (.nx, [V, .val (.int m), x2, x3, .val (.int j), x5, x6, x7]) := by
  show execs (mkC pg G) [_] _ = _
  rw [seq_nx (ρ' := [V, .val (.int m), x2, x3, .val (.int j), x5, x6, x7]) (by simp only [execs_nil, execs_cons, nxt_nx, nxt_ret, fin_nx, fin_ret, exec, ev, evs, evL_L, ret_bd, pur_bd, fai_bd, thr_bd, pur_ret, opS, opN, bd_bd, ite_bd, opIf, gs0, gs1, gs2, gs3, gs4, gs5, gs6, gs7, gs8, gs9, gs10, ss0, ss1, ss2, ss3, ss4, ss5, ss6, ss7, ss8, ss9, ss10, setTg, setTgs, Option.bind_some, Option.map_some, Option.map_none, truth, truthD, cmpD, cmpP, eqD, binP, isiM, isiAny, isiD, b1M, b1P, b2P, ixM, ixP, mkC_call, mkC_dfl, mkC_glo, mkC_sup, List.map, List.replicate, List.cons_append, List.nil_append, List.append_nil, Nat.reduceSub, List.reduceReplicate, Int.reduceLT, Int.reduceLE, Int.reduceEq, if_true, if_false, Bool.or_false, Bool.or_true, Bool.false_eq_true, Bool.not_true, Bool.not_false, Bool.true_and, Bool.and_true, decide_eq_true_eq, hlt, decide_false]), execs_nil]
theorem itC {G : Nat → List D → M D} {V x5 x6 x7 : Sl} {m j : Int} {F H Y N : D} (hlt : j + 1 < m) (hY : Y = if j = 6 then H else F) (lt : G 301 [F, Y] = M.ret N) (ti : G 522 [F, Y] = M.ret N) (sn : G 260 [N, N] = M.ret (.bl true)) :
    execs (mkC pg G) (b331.drop 4) [V, .val (.int m), .val F, .val H, .val (.int j), x5, x6, x7] = M.ret (.nx, [V, .val (.int m), .val N, .val F, .val (.int j), x5, .val N, .val Y]) := by
  have d2 : pg.dfl 260 0 = [] := rfl
  have d6 : pg.dfl 301 0 = [] := rfl
  have d7 : pg.dfl 522 0 = [] := rfl
  show execs (mkC pg G) [.iff (.cmp .Lt (.bin .Add (.v 4) (.c (.int 1))) (.v 1)) [.set 7 (.ite (.cmp .Eq (.v 4) (.c (.int 6))) (.v 3) (.v 2)),
      .set 6 (.call 301 0 [(.v 2), (.v 7)]), .par 3 2 (.v 2) (.call 522 0 [(.v 2), (.v 7)]), .iff (.not_ (.call 260 0 [(.v 2), (.v 6)])) [.ret (.c (.bl false))] []] []] _ = _
  rw [seq_nx (ρ' := [V, .val (.int m), .val N, .val F, .val (.int j), x5, .val N, .val Y]), execs_nil]
  rw [ex_iff_t (by simp only [execs_nil, execs_cons, nxt_nx, nxt_ret, fin_nx, fin_ret, exec, ev, evs, evL_L, ret_bd, pur_bd, fai_bd, thr_bd, pur_ret, opS, opN, bd_bd, ite_bd, opIf, gs0, gs1, gs2, gs3, gs4, gs5, gs6, gs7, gs8, gs9, gs10, ss0, ss1, ss2, ss3, ss4, ss5, ss6, ss7, ss8, ss9, ss10, setTg, setTgs, Option.bind_some, Option.map_some, Option.map_none, truth, truthD, cmpD, cmpP, eqD, binP, isiM, isiAny, isiD, b1M, b1P, b2P, ixM, ixP, mkC_call, mkC_dfl, mkC_glo, mkC_sup, List.map, List.replicate, List.cons_append, List.nil_append, List.append_nil, Nat.reduceSub, List.reduceReplicate, Int.reduceLT, Int.reduceLE, Int.reduceEq, if_true, if_false, Bool.or_false, Bool.or_true, Bool.false_eq_true, Bool.not_true, Bool.not_false, Bool.true_and, Bool.and_true, decide_eq_true_eq, hlt, decide_true]),
    seq_nx (ρ' := [V, .val (.int m), .val F, .val H, .val (.int j), x5, x6, .val Y]) (by
      subst hY
      by_cases c : j = 6
      · simp only [execs_nil, execs_cons, nxt_nx, nxt_ret, fin_nx, fin_ret, exec, ev, evs, evL_L, ret_bd, pur_bd, fai_bd, thr_bd, pur_ret, opS, opN, bd_bd, ite_bd, opIf, gs0, gs1, gs2, gs3, gs4, gs5, gs6, gs7, gs8, gs9, gs10, ss0, ss1, ss2, ss3, ss4, ss5, ss6, ss7, ss8, ss9, ss10, setTg, setTgs, Option.bind_some, Option.map_some, Option.map_none, truth, truthD, cmpD, cmpP, eqD, binP, isiM, isiAny, isiD, b1M, b1P, b2P, ixM, ixP, mkC_call, mkC_dfl, mkC_glo, mkC_sup, List.map, List.replicate, List.cons_append, List.nil_append, List.append_nil, Nat.reduceSub, List.reduceReplicate, Int.reduceLT, Int.reduceLE, Int.reduceEq, if_true, if_false, Bool.or_false, Bool.or_true, Bool.false_eq_true, Bool.not_true, Bool.not_false, Bool.true_and, Bool.and_true, decide_eq_true_eq, c, decide_true]
      · simp only [execs_nil, execs_cons, nxt_nx, nxt_ret, fin_nx, fin_ret, exec, ev, evs, evL_L, ret_bd, pur_bd, fai_bd, thr_bd, pur_ret, opS, opN, bd_bd, ite_bd, opIf, gs0, gs1, gs2, gs3, gs4, gs5, gs6, gs7, gs8, gs9, gs10, ss0, ss1, ss2, ss3, ss4, ss5, ss6, ss7, ss8, ss9, ss10, setTg, setTgs, Option.bind_some, Option.map_some, Option.map_none, truth, truthD, cmpD, cmpP, eqD, binP, isiM, isiAny, isiD, b1M, b1P, b2P, ixM, ixP, mkC_call, mkC_dfl, mkC_glo, mkC_sup, List.map, List.replicate, List.cons_append, List.nil_append, List.append_nil, Nat.reduceSub, List.reduceReplicate, Int.reduceLT, Int.reduceLE, Int.reduceEq, if_true, if_false, Bool.or_false, Bool.or_true, Bool.false_eq_true, Bool.not_true, Bool.not_false, Bool.true_and, Bool.and_true, decide_eq_true_eq, c, decide_false]),
    seq_nx (ρ' := [V, .val (.int m), .val F, .val H, .val (.int j), x5, .val N, .val Y]) (by simp only [execs_nil, execs_cons, nxt_nx, nxt_ret, fin_nx, fin_ret, exec, ev, evs, evL_L, ret_bd, pur_bd, fai_bd, thr_bd, pur_ret, opS, opN, bd_bd, ite_bd, opIf, gs0, gs1, gs2, gs3, gs4, gs5, gs6, gs7, gs8, gs9, gs10, ss0, ss1, ss2, ss3, ss4, ss5, ss6, ss7, ss8, ss9, ss10, setTg, setTgs, Option.bind_some, Option.map_some, Option.map_none, truth, truthD, cmpD, cmpP, eqD, binP, isiM, isiAny, isiD, b1M, b1P, b2P, ixM, ixP, mkC_call, mkC_dfl, mkC_glo, mkC_sup, List.map, List.replicate, List.cons_append, List.nil_append, List.append_nil, Nat.reduceSub, List.reduceReplicate, Int.reduceLT, Int.reduceLE, Int.reduceEq, if_true, if_false, Bool.or_false, Bool.or_true, Bool.false_eq_true, Bool.not_true, Bool.not_false, Bool.true_and, Bool.and_true, decide_eq_true_eq, d6, lt]),
    seq_nx (ρ' := [V, .val (.int m), .val N, .val F, .val (.int j), x5, .val N, .val Y]) (by simp only [execs_nil, execs_cons, nxt_nx, nxt_ret, fin_nx, fin_ret, exec, ev, evs, evL_L, ret_bd, pur_bd, fai_bd, thr_bd, pur_ret, opS, opN, bd_bd, ite_bd, opIf, gs0, gs1, gs2, gs3, gs4, gs5, gs6, gs7, gs8, gs9, gs10, ss0, ss1, ss2, ss3, ss4, ss5, ss6, ss7, ss8, ss9, ss10, setTg, setTgs, Option.bind_some, Option.map_some, Option.map_none, truth, truthD, cmpD, cmpP, eqD, binP, isiM, isiAny, isiD, b1M, b1P, b2P, ixM, ixP, mkC_call, mkC_dfl, mkC_glo, mkC_sup, List.map, List.replicate, List.cons_append, List.nil_append, List.append_nil, Nat.reduceSub, List.reduceReplicate, Int.reduceLT, Int.reduceLE, Int.reduceEq, if_true, if_false, Bool.or_false, Bool.or_true, Bool.false_eq_true, Bool.not_true, Bool.not_false, Bool.true_and, Bool.and_true, decide_eq_true_eq, d7, ti]),
    seq_nx (ρ' := [V, .val (.int m), .val N, .val F, .val (.int j), x5, .val N, .val Y]) (by simp only [execs_nil, execs_cons, nxt_nx, nxt_ret, fin_nx, fin_ret, exec, ev, evs, evL_L, ret_bd, pur_bd, fai_bd, thr_bd, pur_ret, opS, opN, bd_bd, ite_bd, opIf, gs0, gs1, gs2, gs3, gs4, gs5, gs6, gs7, gs8, gs9, gs10, ss0, ss1, ss2, ss3, ss4, ss5, ss6, ss7, ss8, ss9, ss10, setTg, setTgs, Option.bind_some, Option.map_some, Option.map_none, truth, truthD, cmpD, cmpP, eqD, binP, isiM, isiAny, isiD, b1M, b1P, b2P, ixM, ixP, mkC_call, mkC_dfl, mkC_glo, mkC_sup, List.map, List.replicate, List.cons_append, List.nil_append, List.append_nil, Nat.reduceSub, List.reduceReplicate, Int.reduceLT, Int.reduceLE, Int.reduceEq, if_true, if_false, Bool.or_false, Bool.or_true, Bool.false_eq_true, Bool.not_true, Bool.not_false, Bool.true_and, Bool.and_true, decide_eq_true_eq, d2, sn]), execs_nil]
/-- the facts of one turn -/
theorem facts {k : Nat} {p q : Int} (h : isF p q = true) (hp : p.natAbs < big) (hq : q.natAbs < big) : ∃ (W : List Nat) (c : Bool) (dd : D),
    callF pg (k + 6) 407 [fr p q] = M.ret (.str W) ∧ callF pg (k + 6) 155 [fr p q] = M.ret (.str W) ∧ callF pg (k + 6) 260 [.str W, .str W] = M.ret (.bl true) ∧ callF pg (k + 6) 148 [fr p q] = M.ret (.bl c) ∧
    callF pg (k + 6) 406 [.str W] = M.ret dd ∧ callF pg (k + 6) 260 [dd, dd] = M.ret (.bl true) ∧ dd = if c then fr p q else .non := by
  have wl := word_len hp hq
  have wl2 : (wordL p q).length ≤ line := by rw [hline]; omega
  have bk := back h
  rw [← N40_eq] at bk
  have fo := fo1 (k + 2) (wordL p q) wl2
  rw [bk] at fo
  refine ⟨wordL p q, decide (p.natAbs < N40) && decide (q.natAbs < N40), if p.natAbs < N40 ∧ q.natAbs < N40 then fr p q else .non, fw1 (k + 3) p q h hp hq, fw2 (k + 5) p q hp hq, same1 0 _ .str (k + 4), fit1 (k + 4) p q, fo, ?_, ?_⟩
  · by_cases c1 : p.natAbs < N40 ∧ q.natAbs < N40
    · rw [if_pos c1]; exact same1 1 _ pl_fr (k + 3)
    · rw [if_neg c1]; exact same1 0 _ .non (k + 4)
  · by_cases c1 : p.natAbs < N40 ∧ q.natAbs < N40
    · rw [if_pos c1, decide_eq_true c1.1, decide_eq_true c1.2]; rfl
    · rw [if_neg c1, if_neg]
      rw [Bool.and_eq_true, decide_eq_true_eq, decide_eq_true_eq]
      exact c1
/-- the exponents -/
def exps : Nat → Nat × Nat
  | 0 => (1, 1)
  | j + 1 => if j = 6 then ((exps j).1 + (exps j).2, (exps j).1) else (2 * (exps j).1, (exps j).1)
theorem exps_le : ∀ j, j ≤ 7 → (exps j).1 ≤ 96 ∧ (exps j).2 ≤ 96 := by decide
/-- the turns from j on -/
theorem turns {k : Nat} {a b : Int} {V : Sl} (h : isF a b = true) (ha : a.natAbs < N40) (hb : b.natAbs < N40) {m : Nat} (hm : m ≤ 8) : ∀ (n j : Nat), j + n = m → ∀ x5 x6 x7 x4 : Sl,
    ∃ ρ', forM (setTg (.n 4)) (execs (mkC pg (callF pg (k + 6))) b331) ((List.range' j n).map fun i : Nat => .int (0 + (i : Int)))
      [V, .val (.int m), .val (fr (a ^ (exps j).1) (b ^ (exps j).1)), .val (fr (a ^ (exps j).2) (b ^ (exps j).2)), x4, x5, x6, x7] = M.ret (.nx, ρ') ∧ ∃ y2 y3 y4 y5 y6 y7, ρ' = [V, .val (.int m), y2, y3, y4, y5, y6, y7]
  | 0, j, _, x5, x6, x7, x4 => ⟨_, forM_nil, _, _, _, _, _, _, rfl⟩
  | n + 1, j, hj, x5, x6, x7, x4 => by
    have hj7 : j ≤ 7 := by omega
    obtain ⟨e1, e2⟩ := exps_le j hj7
    have F1 := isF_pow h (exps j).1
    obtain ⟨W, c, dd, w1, w2, sw, ft, fo, sd, hd⟩ := facts (k := k) F1 (ipow_lt ha e1) (ipow_lt hb e1)
    have A := itA (G := callF pg (k + 6)) (V := V) (x3 := .val (fr (a ^ (exps j).2) (b ^ (exps j).2))) (x5 := x5) (x6 := x6) (x7 := x7) (m := m) (j := (0 + (j : Int))) w1 w2 sw ft fo sd hd
    rw [List.range'_succ, List.map_cons]
    have s4 : ∀ d, setTg (.n 4) d [V, .val (.int m), .val (fr (a ^ (exps j).1) (b ^ (exps j).1)), .val (fr (a ^ (exps j).2) (b ^ (exps j).2)), x4, x5, x6, x7] = some [V, .val (.int m), .val (fr (a ^ (exps j).1) (b ^ (exps j).1)), .val (fr (a ^ (exps j).2) (b ^ (exps j).2)), .val d, x5, x6, x7] := fun _ => ss4
    by_cases hl : j + 1 < m
    · have hn : ∃ n', n = n' + 1 := ⟨n - 1, by omega⟩
      have hj6 : j ≤ 6 := by omega
      obtain ⟨f1, f2⟩ := exps_le (j + 1) (by omega)
      have F2 := isF_pow h (exps (j + 1)).1
      -- the other factor
      have key : ∃ g : Nat, (fr (a ^ g) (b ^ g) = if (0 + (j : Int)) = 6 then fr (a ^ (exps j).2) (b ^ (exps j).2) else fr (a ^ (exps j).1) (b ^ (exps j).1)) ∧ g ≤ 96 ∧ (exps j).1 + g = (exps (j + 1)).1 := by
        by_cases c6 : j = 6
        · refine ⟨(exps j).2, by rw [if_pos (by omega)], e2, ?_⟩
          show _ = (if j = 6 then _ else _ : Nat × Nat).1
          rw [if_pos c6]
        · refine ⟨(exps j).1, by rw [if_neg (by omega)], e1, ?_⟩
          show _ = (if j = 6 then _ else _ : Nat × Nat).1
          rw [if_neg c6]
          show _ = 2 * _
          omega
      obtain ⟨g, hY, hg, hs⟩ := key
      have pa : a ^ (exps (j + 1)).1 = a ^ (exps j).1 * a ^ g := by rw [← hs, Int.pow_add]
      have pb : b ^ (exps (j + 1)).1 = b ^ (exps j).1 * b ^ g := by rw [← hs, Int.pow_add]
      have F2' := F2
      rw [pa, pb] at F2'
      obtain ⟨g1, g2⟩ := isF_iff.mp F2'
      have m1 := mul_big (ipow_lt ha e1) (ipow_lt ha hg)
      have m2 := mul_big (ipow_lt hb e1) (ipow_lt hb hg)
      have gl : (Int.gcd (a ^ (exps j).1 * a ^ g) (b ^ (exps j).1 * b ^ g)).log2 < 9000 := by rw [g2]; decide
      have ti := ti1 (k + 2) _ _ _ _ F1 (isF_pow h g) m1 m2 (by omega) gl
      have lt := lt1 (k + 3) _ _ _ _ m1 m2 gl
      rw [low_eq g1, low_fr F2'] at lt
      rw [low_fr F2'] at ti
      have B := itC (G := callF pg (k + 6)) (V := V) (x5 := .val (.str W)) (x6 := .val dd) (x7 := x7) (m := m) (j := (0 + (j : Int))) (by omega) hY lt ti (same1 1 _ pl_fr (k + 3))
      have ex2 : (exps (j + 1)).2 = (exps j).1 := by
        show (if j = 6 then _ else _ : Nat × Nat).2 = _
        by_cases c6 : j = 6
        · rw [if_pos c6]
        · rw [if_neg c6]
      obtain ⟨ρ', e, r⟩ := turns h ha hb hm n (j + 1) (by omega) (.val (.str W)) (.val (fr (a ^ (exps j).1 * a ^ g) (b ^ (exps j).1 * b ^ g))) (.val (fr (a ^ g) (b ^ g))) (.val (.int (0 + (j : Int))))
      rw [ex2, pa, pb] at e
      exact ⟨ρ', (forM_nx (s4 _) (A.trans B)).trans e, r⟩
    · have B := itB (G := callF pg (k + 6)) (V := V) (x2 := .val (fr (a ^ (exps j).1) (b ^ (exps j).1))) (x3 := .val (fr (a ^ (exps j).2) (b ^ (exps j).2))) (x5 := .val (.str W)) (x6 := .val dd) (x7 := x7) (m := m) (j := (0 + (j : Int))) (by omega)
      have hn : n = 0 := by omega
      subst hn
      exact ⟨_, (forM_nx (s4 _) (A.trans B)).trans forM_nil, _, _, _, _, _, _, rfl⟩
theorem wr1 (k : Nat) {a b : Int} (h : isF a b = true) (ha : a.natAbs < N40) (hb : b.natAbs < N40) {m : Nat} (hm : m ≤ 8) : callF pg (k + 7) 331 [fr a b, .int m] = M.ret (.bl true) := by
  rw [callS (k := k + 6) (d := ⟨2, 8, ir331⟩) rfl rfl]
  obtain ⟨ρ', e, y2, y3, y4, y5, y6, y7, r⟩ := turns (k := k) (V := .val (fr a b)) h ha hb hm m 0 (by omega) .non .non .non .non
  have p1 : a ^ (exps 0).1 = a ∧ b ^ (exps 0).1 = b ∧ a ^ (exps 0).2 = a ∧ b ^ (exps 0).2 = b := ⟨Int.pow_one a, Int.pow_one b, Int.pow_one a, Int.pow_one b⟩
  rw [p1.1, p1.2.1, p1.2.2.1, p1.2.2.2] at e
  subst r
  show execs (mkC pg (callF pg (k + 6))) [.set 2 (.v 0), .set 3 (.v 0), .fr (.n 4) (.Ir1 (.v 1)) b331, .ret (.c (.bl true))] [.val (fr a b), .val (.int m), .non, .non, .non, .non, .non, .non] >>= fin = _
  rw [seq_nx (ρ' := [.val (fr a b), .val (.int m), .val (fr a b), .non, .non, .non, .non, .non]) (by simp only [execs_nil, execs_cons, nxt_nx, nxt_ret, fin_nx, fin_ret, exec, ev, evs, evL_L, ret_bd, pur_bd, fai_bd, thr_bd, pur_ret, opS, opN, bd_bd, ite_bd, opIf, gs0, gs1, gs2, gs3, gs4, gs5, gs6, gs7, gs8, gs9, gs10, ss0, ss1, ss2, ss3, ss4, ss5, ss6, ss7, ss8, ss9, ss10, setTg, setTgs, Option.bind_some, Option.map_some, Option.map_none, truth, truthD, cmpD, cmpP, eqD, binP, isiM, isiAny, isiD, b1M, b1P, b2P, ixM, ixP, mkC_call, mkC_dfl, mkC_glo, mkC_sup, List.map, List.replicate, List.cons_append, List.nil_append, List.append_nil, Nat.reduceSub, List.reduceReplicate, Int.reduceLT, Int.reduceLE, Int.reduceEq, if_true, if_false, Bool.or_false, Bool.or_true, Bool.false_eq_true, Bool.not_true, Bool.not_false, Bool.true_and, Bool.and_true, decide_eq_true_eq]), seq_nx (ρ' := [.val (fr a b), .val (.int m), .val (fr a b), .val (fr a b), .non, .non, .non, .non]) (by simp only [execs_nil, execs_cons, nxt_nx, nxt_ret, fin_nx, fin_ret, exec, ev, evs, evL_L, ret_bd, pur_bd, fai_bd, thr_bd, pur_ret, opS, opN, bd_bd, ite_bd, opIf, gs0, gs1, gs2, gs3, gs4, gs5, gs6, gs7, gs8, gs9, gs10, ss0, ss1, ss2, ss3, ss4, ss5, ss6, ss7, ss8, ss9, ss10, setTg, setTgs, Option.bind_some, Option.map_some, Option.map_none, truth, truthD, cmpD, cmpP, eqD, binP, isiM, isiAny, isiD, b1M, b1P, b2P, ixM, ixP, mkC_call, mkC_dfl, mkC_glo, mkC_sup, List.map, List.replicate, List.cons_append, List.nil_append, List.append_nil, Nat.reduceSub, List.reduceReplicate, Int.reduceLT, Int.reduceLE, Int.reduceEq, if_true, if_false, Bool.or_false, Bool.or_true, Bool.false_eq_true, Bool.not_true, Bool.not_false, Bool.true_and, Bool.and_true, decide_eq_true_eq])]
  have er : rngD 0 (m : Int) = (List.range' 0 m).map fun i : Nat => .int (0 + (i : Int)) := by
    unfold rngD
    rw [List.range_eq_range', Int.sub_zero, Int.toNat_natCast]
  have hev : ev (mkC pg (callF pg (k + 6))) (.v 1) [.val (fr a b), .val (.int m), .val (fr a b), .val (fr a b), .non, .non, .non, .non] = M.ret (.int m) := by simp only [execs_nil, execs_cons, nxt_nx, nxt_ret, fin_nx, fin_ret, exec, ev, evs, evL_L, ret_bd, pur_bd, fai_bd, thr_bd, pur_ret, opS, opN, bd_bd, ite_bd, opIf, gs0, gs1, gs2, gs3, gs4, gs5, gs6, gs7, gs8, gs9, gs10, ss0, ss1, ss2, ss3, ss4, ss5, ss6, ss7, ss8, ss9, ss10, setTg, setTgs, Option.bind_some, Option.map_some, Option.map_none, truth, truthD, cmpD, cmpP, eqD, binP, isiM, isiAny, isiD, b1M, b1P, b2P, ixM, ixP, mkC_call, mkC_dfl, mkC_glo, mkC_sup, List.map, List.replicate, List.cons_append, List.nil_append, List.append_nil, Nat.reduceSub, List.reduceReplicate, Int.reduceLT, Int.reduceLE, Int.reduceEq, if_true, if_false, Bool.or_false, Bool.or_true, Bool.false_eq_true, Bool.not_true, Bool.not_false, Bool.true_and, Bool.and_true, decide_eq_true_eq]
  rw [seq_nx (ρ' := [.val (fr a b), .val (.int m), y2, y3, y4, y5, y6, y7]) (ex_fr (evI_r1 hev (rng_small (by omega))) (by rw [er]; exact e))]
  simp only [execs_nil, execs_cons, nxt_nx, nxt_ret, fin_nx, fin_ret, exec, ev, evs, evL_L, ret_bd, pur_bd, fai_bd, thr_bd, pur_ret, opS, opN, bd_bd, ite_bd, opIf, gs0, gs1, gs2, gs3, gs4, gs5, gs6, gs7, gs8, gs9, gs10, ss0, ss1, ss2, ss3, ss4, ss5, ss6, ss7, ss8, ss9, ss10, setTg, setTgs, Option.bind_some, Option.map_some, Option.map_none, truth, truthD, cmpD, cmpP, eqD, binP, isiM, isiAny, isiD, b1M, b1P, b2P, ixM, ixP, mkC_call, mkC_dfl, mkC_glo, mkC_sup, List.map, List.replicate, List.cons_append, List.nil_append, List.append_nil, Nat.reduceSub, List.reduceReplicate, Int.reduceLT, Int.reduceLE, Int.reduceEq, if_true, if_false, Bool.or_false, Bool.or_true, Bool.false_eq_true, Bool.not_true, Bool.not_false, Bool.true_and, Bool.and_true, decide_eq_true_eq]
end PL.k71
end
section
set_option Elab.async false
set_option linter.all false
set_option maxRecDepth 100000
/-! K71C7: the store, what is drawn. -/
namespace PL
open PySem PL
section
variable {α : Type} {n : Nat} {g : Hs} {c c' : HC}
theorem bndH {β : Type} {m : M α} {f : α → M β} {a : α} {h h' : Hs} (e : m h = .ok a h') : (m >>= f) h = f a h' := by
  simp only [Bind.bind, M.bnd, e]
theorem cellP {f : HC → M α} : (cellAt n >>= f) (g.put n c) = f c (g.put n c) := bndH (by simp [cellAt, Hs.put])
theorem put_put : (g.put n c).put n c' = g.put n c' := by
  unfold Hs.put
  congr 1
  funext m
  by_cases h : m = n
  · simp [h]
  · simp [h]
theorem putP {f : Unit → M α} : (putAt n c' >>= f) (g.put n c) = f () (g.put n c') := by
  refine bndH ?_
  have e : (g.put n c).cells n = some c := by simp [Hs.put]
  unfold putAt
  rw [e]
  show Res.ok () _ = _
  rw [put_put]
theorem seqH_nx {C : Cfg} {s : PL.St} {ss : List PL.St} {ρ ρ' : PL.Env} {h h' : Hs} (e : exec C s ρ h = .ok (.nx, ρ') h') : execs C (s :: ss) ρ h = execs C ss ρ' h' := by
  rw [execs_cons, bndH e]
  rfl
theorem seqH_ret {C : Cfg} {s : PL.St} {ss : List PL.St} {ρ ρ' : PL.Env} {h h' : Hs} {d : D} (e : exec C s ρ h = .ok (.ret d, ρ') h') : execs C (s :: ss) ρ h = .ok (.ret d, ρ') h' := by
  rw [execs_cons, bndH e]
  rfl
theorem truth_bl {b : Bool} {f : Bool → M α} : (truth (.bl b) >>= f) = f b := rfl
theorem exH_t {C : Cfg} {t : Ex} {a b : List PL.St} {ρ : PL.Env} {h h' : Hs} (e : ev C t ρ h = .ok (.bl true) h') : exec C (.iff t a b) ρ h = execs C a ρ h' := by
  rw [exec, bndH e]
  rfl
theorem exH_f {C : Cfg} {t : Ex} {a b : List PL.St} {ρ : PL.Env} {h h' : Hs} (e : ev C t ρ h = .ok (.bl false) h') : exec C (.iff t a b) ρ h = execs C b ρ h' := by
  rw [exec, bndH e]
  rfl
end
end PL
namespace PL.k71
open PySem PL
open SX _root_.TL
theorem fm {a b : Int} (hb : 0 < b) : 0 ≤ a.fmod b ∧ a.fmod b < b := by
  rw [Int.fmod_eq_emod_of_nonneg a (Int.le_of_lt hb)]
  exact ⟨Int.emod_nonneg _ (by omega), Int.emod_lt_of_pos _ hb⟩
theorem fd {a b : Int} (hb : 0 < b) : a.fdiv b = a / b := Int.fdiv_eq_ediv_of_nonneg a (Int.le_of_lt hb)
theorem mk_of {i j : Int} (hi : i.natAbs < 2 ^ 1000) (hj : j.natAbs < 2 ^ 1000) : mulOk i j = true := mulOk_of 1000 1000 hi hj (by decide)
theorem p31 {v : Int} (h : 0 ≤ v ∧ v < 2147483648) : v.natAbs < 2 ^ 1000 := Nat.lt_trans (show v.natAbs < 2 ^ 31 by omega) (by decide +kernel)
theorem pC {v : Nat} (h : v < 2147483648) : v < 2 ^ 1000 := Nat.lt_trans (show v < 2 ^ 31 by omega) (by decide +kernel)
theorem mx1 (k : Nat) (a t : Int) (ht : t.natAbs < 2 ^ 900) : ∃ w : Int, callF pg (k + 1) 199 [.int a, .int t] = M.ret (.int w) ∧ 0 ≤ w ∧ w < 268435456 := by
  rw [callS (d := ⟨2, 3, ir199⟩) rfl rfl]
  generalize mkC pg (callF pg k) = C
  have t9 : t.natAbs < 2 ^ 1000 := Nat.lt_trans ht (by decide +kernel)
  obtain ⟨a1, a2⟩ := fm (a := a) (b := 2147483629) (by decide)
  generalize hv1 : ((a.fmod 2147483629) * 48271 + t * 40692 + 69621).fmod 2147483647 = v1
  have b1 := fm (a := (a.fmod 2147483629) * 48271 + t * 40692 + 69621) (b := 2147483647) (by decide)
  rw [hv1] at b1
  generalize hv2 : (v1 * v1 + v1 * 16807 + t * 69997 + 12820163).fmod 2147483629 = v2
  have b2 := fm (a := v1 * v1 + v1 * 16807 + t * 69997 + 12820163) (b := 2147483629) (by decide)
  rw [hv2] at b2
  generalize hv3 : (v2 * 48271 + v2.fdiv 32768 + 7).fmod 2147483647 = v3
  have b3 := fm (a := v2 * 48271 + v2.fdiv 32768 + 7) (b := 2147483647) (by decide)
  rw [hv3] at b3
  generalize hv4 : (v3 * v3 + t).fmod 2147483587 = v4
  have b4 := fm (a := v3 * v3 + t) (b := 2147483587) (by decide)
  rw [hv4] at b4
  have m1 := mk_of (j := 48271) (p31 ⟨a1, by omega⟩) (pC (by decide))
  have m2 := mk_of (i := t) (j := 40692) t9 (pC (by decide))
  have m3 := mk_of (i := v1) (j := v1) (p31 ⟨b1.1, by omega⟩) (p31 ⟨b1.1, by omega⟩)
  have m4 := mk_of (i := v1) (j := 16807) (p31 ⟨b1.1, by omega⟩) (pC (by decide))
  have m5 := mk_of (i := t) (j := 69997) t9 (pC (by decide))
  have m6 := mk_of (i := v2) (j := 48271) (p31 ⟨b2.1, by omega⟩) (pC (by decide))
  have m7 := mk_of (i := v3) (j := v3) (p31 ⟨b3.1, by omega⟩) (p31 ⟨b3.1, by omega⟩)
  have n1 : (2147483629 : Int) ≠ 0 := by decide
  have n2 : (2147483647 : Int) ≠ 0 := by decide
  have n3 : (32768 : Int) ≠ 0 ∧ (32768 : Int).natAbs.log2 < 9000 := by decide
  have n4 : (2147483587 : Int) ≠ 0 := by decide
  have n5 : (8 : Int) ≠ 0 ∧ (8 : Int).natAbs.log2 < 9000 := by decide
  refine ⟨v4.fdiv 8, ?_, ?_, ?_⟩
  · show execs C ir199 [.val (.int a), .val (.int t), .non] >>= fin = _
    unfold ir199
    rw [seq_nx (ρ' := [.val (.int a), .val (.int t), .val (.int v1)]) (by simp only [execs_nil, execs_cons, nxt_nx, nxt_ret, fin_nx, fin_ret, exec, ev, evs, evL_L, ret_bd, pur_bd, fai_bd, thr_bd, pur_ret, opS, opN, bd_bd, ite_bd, opIf, gs0, gs1, gs2, gs3, gs4, gs5, gs6, gs7, gs8, gs9, gs10, ss0, ss1, ss2, ss3, ss4, ss5, ss6, ss7, ss8, ss9, ss10, setTg, setTgs, Option.bind_some, Option.map_some, Option.map_none, truth, truthD, cmpD, cmpP, eqD, binP, isiM, isiAny, isiD, b1M, b1P, b2P, ixM, ixP, mkC_call, mkC_dfl, mkC_glo, mkC_sup, List.map, List.replicate, List.cons_append, List.nil_append, List.append_nil, Nat.reduceSub, List.reduceReplicate, Int.reduceLT, Int.reduceLE, Int.reduceEq, if_true, if_false, Bool.or_false, Bool.or_true, Bool.false_eq_true, Bool.not_true, Bool.not_false, Bool.true_and, Bool.and_true, decide_eq_true_eq, n1, n2, m1, m2, ne_eq, not_false_eq_true, hv1]),
      seq_nx (ρ' := [.val (.int a), .val (.int t), .val (.int v2)]) (by simp only [execs_nil, execs_cons, nxt_nx, nxt_ret, fin_nx, fin_ret, exec, ev, evs, evL_L, ret_bd, pur_bd, fai_bd, thr_bd, pur_ret, opS, opN, bd_bd, ite_bd, opIf, gs0, gs1, gs2, gs3, gs4, gs5, gs6, gs7, gs8, gs9, gs10, ss0, ss1, ss2, ss3, ss4, ss5, ss6, ss7, ss8, ss9, ss10, setTg, setTgs, Option.bind_some, Option.map_some, Option.map_none, truth, truthD, cmpD, cmpP, eqD, binP, isiM, isiAny, isiD, b1M, b1P, b2P, ixM, ixP, mkC_call, mkC_dfl, mkC_glo, mkC_sup, List.map, List.replicate, List.cons_append, List.nil_append, List.append_nil, Nat.reduceSub, List.reduceReplicate, Int.reduceLT, Int.reduceLE, Int.reduceEq, if_true, if_false, Bool.or_false, Bool.or_true, Bool.false_eq_true, Bool.not_true, Bool.not_false, Bool.true_and, Bool.and_true, decide_eq_true_eq, n1, m3, m4, m5, ne_eq, not_false_eq_true, hv2]),
      seq_nx (ρ' := [.val (.int a), .val (.int t), .val (.int v3)]) (by simp only [execs_nil, execs_cons, nxt_nx, nxt_ret, fin_nx, fin_ret, exec, ev, evs, evL_L, ret_bd, pur_bd, fai_bd, thr_bd, pur_ret, opS, opN, bd_bd, ite_bd, opIf, gs0, gs1, gs2, gs3, gs4, gs5, gs6, gs7, gs8, gs9, gs10, ss0, ss1, ss2, ss3, ss4, ss5, ss6, ss7, ss8, ss9, ss10, setTg, setTgs, Option.bind_some, Option.map_some, Option.map_none, truth, truthD, cmpD, cmpP, eqD, binP, isiM, isiAny, isiD, b1M, b1P, b2P, ixM, ixP, mkC_call, mkC_dfl, mkC_glo, mkC_sup, List.map, List.replicate, List.cons_append, List.nil_append, List.append_nil, Nat.reduceSub, List.reduceReplicate, Int.reduceLT, Int.reduceLE, Int.reduceEq, if_true, if_false, Bool.or_false, Bool.or_true, Bool.false_eq_true, Bool.not_true, Bool.not_false, Bool.true_and, Bool.and_true, decide_eq_true_eq, n2, n3, m6, ne_eq, not_false_eq_true, hv3, and_self]),
      seq_nx (ρ' := [.val (.int a), .val (.int t), .val (.int v4)]) (by simp only [execs_nil, execs_cons, nxt_nx, nxt_ret, fin_nx, fin_ret, exec, ev, evs, evL_L, ret_bd, pur_bd, fai_bd, thr_bd, pur_ret, opS, opN, bd_bd, ite_bd, opIf, gs0, gs1, gs2, gs3, gs4, gs5, gs6, gs7, gs8, gs9, gs10, ss0, ss1, ss2, ss3, ss4, ss5, ss6, ss7, ss8, ss9, ss10, setTg, setTgs, Option.bind_some, Option.map_some, Option.map_none, truth, truthD, cmpD, cmpP, eqD, binP, isiM, isiAny, isiD, b1M, b1P, b2P, ixM, ixP, mkC_call, mkC_dfl, mkC_glo, mkC_sup, List.map, List.replicate, List.cons_append, List.nil_append, List.append_nil, Nat.reduceSub, List.reduceReplicate, Int.reduceLT, Int.reduceLE, Int.reduceEq, if_true, if_false, Bool.or_false, Bool.or_true, Bool.false_eq_true, Bool.not_true, Bool.not_false, Bool.true_and, Bool.and_true, decide_eq_true_eq, n4, m7, ne_eq, not_false_eq_true, hv4])]
    simp only [execs_nil, execs_cons, nxt_nx, nxt_ret, fin_nx, fin_ret, exec, ev, evs, evL_L, ret_bd, pur_bd, fai_bd, thr_bd, pur_ret, opS, opN, bd_bd, ite_bd, opIf, gs0, gs1, gs2, gs3, gs4, gs5, gs6, gs7, gs8, gs9, gs10, ss0, ss1, ss2, ss3, ss4, ss5, ss6, ss7, ss8, ss9, ss10, setTg, setTgs, Option.bind_some, Option.map_some, Option.map_none, truth, truthD, cmpD, cmpP, eqD, binP, isiM, isiAny, isiD, b1M, b1P, b2P, ixM, ixP, mkC_call, mkC_dfl, mkC_glo, mkC_sup, List.map, List.replicate, List.cons_append, List.nil_append, List.append_nil, Nat.reduceSub, List.reduceReplicate, Int.reduceLT, Int.reduceLE, Int.reduceEq, if_true, if_false, Bool.or_false, Bool.or_true, Bool.false_eq_true, Bool.not_true, Bool.not_false, Bool.true_and, Bool.and_true, decide_eq_true_eq, n5, and_self, ne_eq, not_false_eq_true]
  · rw [fd (by decide)]; omega
  · rw [fd (by decide)]; omega
/-! ### the store -/
def SL (zs : List Int) (p r c s l q : Int) : HC := .lst [.lst (zs.map .int), .int p, .int r, .int c, .int s, .int l, .int q]
def Sto (n : Nat) (B : Nat) (h : Hs) : Prop := ∃ (g : Hs) (zs : List Int) (p r c s l q : Int), h = g.put n (SL zs p r c s l q) ∧ 0 ≤ p ∧ c.natAbs ≤ B ∧ zs.length ≤ 100
theorem Sto.mono {n A B : Nat} {h : Hs} (s : Sto n A h) (l : A ≤ B) : Sto n B h := by
  obtain ⟨g, zs, p, r, c, s, l', q, e, h1, h2, h3⟩ := s
  exact ⟨g, zs, p, r, c, s, l', q, e, h1, Nat.le_trans h2 l, h3⟩
variable {x0 x1 x2 x3 x4 x5 x6 : D}
theorem q0 : getD [x0, x1, x2, x3, x4, x5, x6] 0 = some x0 := rfl
theorem q1 : getD [x0, x1, x2, x3, x4, x5, x6] 1 = some x1 := rfl
theorem q2 : getD [x0, x1, x2, x3, x4, x5, x6] 2 = some x2 := rfl
theorem q3 : getD [x0, x1, x2, x3, x4, x5, x6] 3 = some x3 := rfl
theorem q4 : getD [x0, x1, x2, x3, x4, x5, x6] 4 = some x4 := rfl
theorem q5 : getD [x0, x1, x2, x3, x4, x5, x6] 5 = some x5 := rfl
theorem q6 : getD [x0, x1, x2, x3, x4, x5, x6] 6 = some x6 := rfl
theorem u1 {v : D} : setC (.lst [x0, x1, x2, x3, x4, x5, x6]) (.int 1) v = some (.lst [x0, v, x2, x3, x4, x5, x6]) := rfl
theorem u2 {v : D} : setC (.lst [x0, x1, x2, x3, x4, x5, x6]) (.int 2) v = some (.lst [x0, x1, v, x3, x4, x5, x6]) := rfl
theorem u3 {v : D} : setC (.lst [x0, x1, x2, x3, x4, x5, x6]) (.int 3) v = some (.lst [x0, x1, x2, v, x4, x5, x6]) := rfl
theorem u5 {v : D} : setC (.lst [x0, x1, x2, x3, x4, x5, x6]) (.int 5) v = some (.lst [x0, x1, x2, x3, x4, v, x6]) := rfl
theorem u6 {v : D} : setC (.lst [x0, x1, x2, x3, x4, x5, x6]) (.int 6) v = some (.lst [x0, x1, x2, x3, x4, x5, v]) := rfl
theorem retH {α : Type} {a : α} {h : Hs} : M.ret a h = .ok a h := rfl
def s3_294 : PL.St := .iff (.and_ (.cmp .Lt (.ix (.v 0) (.c (.int 2))) (.c (.int 2))) (.and_ (.cmp .Lt (.ix (.v 0) (.c (.int 5))) (.c (.int 1))) (.cmp .Lt (.ix (.v 0) (.c (.int 1))) (.b1 .len (.ix (.v 0) (.c (.int 0))))))) [.set 2 (.b1 .int (.ix (.ix (.v 0) (.c (.int 0))) (.ix (.v 0) (.c (.int 1))))),
  .hset (.v 0) (.c (.int 1)) (.bin .Add (.ix (.v 0) (.c (.int 1))) (.c (.int 1))),
  .iff (.cmp .Lt (.b1 .abs (.v 2)) (.bin .Pow (.c (.int 10)) (.c (.int 18)))) [.hset (.v 0) (.c (.int 5)) (.c (.int 2)),
  .hset (.v 0) (.c (.int 6)) (.v 2)] [.hset (.v 0) (.c (.int 2)) (.b1 .abs (.v 2))]] []
@[irreducible] def P18 : Int := 10 ^ 18
theorem e18 : ((10 : Int) ^ (18 : Int).toNat) = P18 := by unfold P18; decide +kernel
theorem c18 : (0 : Int) ≤ 18 ∧ (18 : Int) ≤ 1000 ∧ (10 : Int).natAbs < 1000 := by decide
section
variable {C : Cfg} {g : Hs} {n : Nat} {zs : List Int} {p r c s l q x : Int} {y1 y2 y3 y4 y5 y6 : Sl}
theorem k1 (hx : getD (zs.map D.int) p = some (.int x)) : exec C (.set 2 (.b1 .int (.ix (.ix (.v 0) (.c (.int 0))) (.ix (.v 0) (.c (.int 1)))))) [.val (.ref n), y1, y2, y3, y4, y5, y6] (g.put n (SL zs p r c s l q)) = .ok (.nx, [.val (.ref n), y1, .val (.int x), y3, y4, y5, y6]) (g.put n (SL zs p r c s l q)) := by
  unfold SL
  simp only [execs_nil, execs_cons, nxt_nx, nxt_ret, fin_nx, fin_ret, exec, ev, evs, evL_L, ret_bd, pur_bd, fai_bd, thr_bd, pur_ret, opS, opN, bd_bd, ite_bd, opIf, gs0, gs1, gs2, gs3, gs4, gs5, gs6, gs7, gs8, gs9, gs10, ss0, ss1, ss2, ss3, ss4, ss5, ss6, ss7, ss8, ss9, ss10, setTg, setTgs, Option.bind_some, Option.map_some, Option.map_none, truth, truthD, cmpD, cmpP, eqD, binP, isiM, isiAny, isiD, b1M, b1P, b2P, ixM, ixP, mkC_call, mkC_dfl, mkC_glo, mkC_sup, List.map, List.replicate, List.cons_append, List.nil_append, List.append_nil, Nat.reduceSub, List.reduceReplicate, Int.reduceLT, Int.reduceLE, Int.reduceEq, if_true, if_false, Bool.or_false, Bool.or_true, Bool.false_eq_true, Bool.not_true, Bool.not_false, Bool.true_and, Bool.and_true, decide_eq_true_eq, cellP, putP, q0, q1, q2, q3, q4, q5, q6, u1, u2, u3, u5, u6, hsetM, lstM, listC, and_self, retH, decide_true, decide_false, hx]
theorem k2 : exec C (.hset (.v 0) (.c (.int 1)) (.bin .Add (.ix (.v 0) (.c (.int 1))) (.c (.int 1)))) [.val (.ref n), y1, y2, y3, y4, y5, y6] (g.put n (SL zs p r c s l q)) = .ok (.nx, [.val (.ref n), y1, y2, y3, y4, y5, y6]) (g.put n (SL zs (p + 1) r c s l q)) := by
  unfold SL
  simp only [execs_nil, execs_cons, nxt_nx, nxt_ret, fin_nx, fin_ret, exec, ev, evs, evL_L, ret_bd, pur_bd, fai_bd, thr_bd, pur_ret, opS, opN, bd_bd, ite_bd, opIf, gs0, gs1, gs2, gs3, gs4, gs5, gs6, gs7, gs8, gs9, gs10, ss0, ss1, ss2, ss3, ss4, ss5, ss6, ss7, ss8, ss9, ss10, setTg, setTgs, Option.bind_some, Option.map_some, Option.map_none, truth, truthD, cmpD, cmpP, eqD, binP, isiM, isiAny, isiD, b1M, b1P, b2P, ixM, ixP, mkC_call, mkC_dfl, mkC_glo, mkC_sup, List.map, List.replicate, List.cons_append, List.nil_append, List.append_nil, Nat.reduceSub, List.reduceReplicate, Int.reduceLT, Int.reduceLE, Int.reduceEq, if_true, if_false, Bool.or_false, Bool.or_true, Bool.false_eq_true, Bool.not_true, Bool.not_false, Bool.true_and, Bool.and_true, decide_eq_true_eq, cellP, putP, q0, q1, q2, q3, q4, q5, q6, u1, u2, u3, u5, u6, hsetM, lstM, listC, and_self, retH, decide_true, decide_false]
theorem k3 (h4 : (x.natAbs : Int) < P18) : exec C (.iff (.cmp .Lt (.b1 .abs (.v 2)) (.bin .Pow (.c (.int 10)) (.c (.int 18)))) [.hset (.v 0) (.c (.int 5)) (.c (.int 2)), .hset (.v 0) (.c (.int 6)) (.v 2)] [.hset (.v 0) (.c (.int 2)) (.b1 .abs (.v 2))]) [.val (.ref n), y1, .val (.int x), y3, y4, y5, y6] (g.put n (SL zs p r c s l q)) = .ok (.nx, [.val (.ref n), y1, .val (.int x), y3, y4, y5, y6]) (g.put n (SL zs p r c s 2 x)) := by
  unfold SL
  simp only [execs_nil, execs_cons, nxt_nx, nxt_ret, fin_nx, fin_ret, exec, ev, evs, evL_L, ret_bd, pur_bd, fai_bd, thr_bd, pur_ret, opS, opN, bd_bd, ite_bd, opIf, gs0, gs1, gs2, gs3, gs4, gs5, gs6, gs7, gs8, gs9, gs10, ss0, ss1, ss2, ss3, ss4, ss5, ss6, ss7, ss8, ss9, ss10, setTg, setTgs, Option.bind_some, Option.map_some, Option.map_none, truth, truthD, cmpD, cmpP, eqD, binP, isiM, isiAny, isiD, b1M, b1P, b2P, ixM, ixP, mkC_call, mkC_dfl, mkC_glo, mkC_sup, List.map, List.replicate, List.cons_append, List.nil_append, List.append_nil, Nat.reduceSub, List.reduceReplicate, Int.reduceLT, Int.reduceLE, Int.reduceEq, if_true, if_false, Bool.or_false, Bool.or_true, Bool.false_eq_true, Bool.not_true, Bool.not_false, Bool.true_and, Bool.and_true, decide_eq_true_eq, cellP, putP, q0, q1, q2, q3, q4, q5, q6, u1, u2, u3, u5, u6, hsetM, lstM, listC, and_self, retH, decide_true, decide_false, c18, e18, h4]
theorem k4 (h4 : ¬ (x.natAbs : Int) < P18) : exec C (.iff (.cmp .Lt (.b1 .abs (.v 2)) (.bin .Pow (.c (.int 10)) (.c (.int 18)))) [.hset (.v 0) (.c (.int 5)) (.c (.int 2)), .hset (.v 0) (.c (.int 6)) (.v 2)] [.hset (.v 0) (.c (.int 2)) (.b1 .abs (.v 2))]) [.val (.ref n), y1, .val (.int x), y3, y4, y5, y6] (g.put n (SL zs p r c s l q)) = .ok (.nx, [.val (.ref n), y1, .val (.int x), y3, y4, y5, y6]) (g.put n (SL zs p x.natAbs c s l q)) := by
  unfold SL
  simp only [execs_nil, execs_cons, nxt_nx, nxt_ret, fin_nx, fin_ret, exec, ev, evs, evL_L, ret_bd, pur_bd, fai_bd, thr_bd, pur_ret, opS, opN, bd_bd, ite_bd, opIf, gs0, gs1, gs2, gs3, gs4, gs5, gs6, gs7, gs8, gs9, gs10, ss0, ss1, ss2, ss3, ss4, ss5, ss6, ss7, ss8, ss9, ss10, setTg, setTgs, Option.bind_some, Option.map_some, Option.map_none, truth, truthD, cmpD, cmpP, eqD, binP, isiM, isiAny, isiD, b1M, b1P, b2P, ixM, ixP, mkC_call, mkC_dfl, mkC_glo, mkC_sup, List.map, List.replicate, List.cons_append, List.nil_append, List.append_nil, Nat.reduceSub, List.reduceReplicate, Int.reduceLT, Int.reduceLE, Int.reduceEq, if_true, if_false, Bool.or_false, Bool.or_true, Bool.false_eq_true, Bool.not_true, Bool.not_false, Bool.true_and, Bool.and_true, decide_eq_true_eq, cellP, putP, q0, q1, q2, q3, q4, q5, q6, u1, u2, u3, u5, u6, hsetM, lstM, listC, and_self, retH, decide_true, decide_false, c18, e18, h4]
theorem k5 (b : Bool) (hb : b = (decide (r < 2) && (decide (l < 1) && decide (p < (zs.length : Int))))) : ev C (.and_ (.cmp .Lt (.ix (.v 0) (.c (.int 2))) (.c (.int 2))) (.and_ (.cmp .Lt (.ix (.v 0) (.c (.int 5))) (.c (.int 1))) (.cmp .Lt (.ix (.v 0) (.c (.int 1))) (.b1 .len (.ix (.v 0) (.c (.int 0))))))) [.val (.ref n), y1, y2, y3, y4, y5, y6] (g.put n (SL zs p r c s l q)) = .ok (.bl b) (g.put n (SL zs p r c s l q)) := by
  subst hb
  unfold SL
  cases h1 : decide (r < 2) with
  | false => simp only [execs_nil, execs_cons, nxt_nx, nxt_ret, fin_nx, fin_ret, exec, ev, evs, evL_L, ret_bd, pur_bd, fai_bd, thr_bd, pur_ret, opS, opN, bd_bd, ite_bd, opIf, gs0, gs1, gs2, gs3, gs4, gs5, gs6, gs7, gs8, gs9, gs10, ss0, ss1, ss2, ss3, ss4, ss5, ss6, ss7, ss8, ss9, ss10, setTg, setTgs, Option.bind_some, Option.map_some, Option.map_none, truth, truthD, cmpD, cmpP, eqD, binP, isiM, isiAny, isiD, b1M, b1P, b2P, ixM, ixP, mkC_call, mkC_dfl, mkC_glo, mkC_sup, List.map, List.replicate, List.cons_append, List.nil_append, List.append_nil, Nat.reduceSub, List.reduceReplicate, Int.reduceLT, Int.reduceLE, Int.reduceEq, if_true, if_false, Bool.or_false, Bool.or_true, Bool.false_eq_true, Bool.not_true, Bool.not_false, Bool.true_and, Bool.and_true, decide_eq_true_eq, cellP, putP, q0, q1, q2, q3, q4, q5, q6, u1, u2, u3, u5, u6, hsetM, lstM, listC, and_self, retH, decide_true, decide_false, h1, Bool.false_and]
  | true => cases h2 : decide (l < 1) with
    | false => simp only [execs_nil, execs_cons, nxt_nx, nxt_ret, fin_nx, fin_ret, exec, ev, evs, evL_L, ret_bd, pur_bd, fai_bd, thr_bd, pur_ret, opS, opN, bd_bd, ite_bd, opIf, gs0, gs1, gs2, gs3, gs4, gs5, gs6, gs7, gs8, gs9, gs10, ss0, ss1, ss2, ss3, ss4, ss5, ss6, ss7, ss8, ss9, ss10, setTg, setTgs, Option.bind_some, Option.map_some, Option.map_none, truth, truthD, cmpD, cmpP, eqD, binP, isiM, isiAny, isiD, b1M, b1P, b2P, ixM, ixP, mkC_call, mkC_dfl, mkC_glo, mkC_sup, List.map, List.replicate, List.cons_append, List.nil_append, List.append_nil, Nat.reduceSub, List.reduceReplicate, Int.reduceLT, Int.reduceLE, Int.reduceEq, if_true, if_false, Bool.or_false, Bool.or_true, Bool.false_eq_true, Bool.not_true, Bool.not_false, Bool.true_and, Bool.and_true, decide_eq_true_eq, cellP, putP, q0, q1, q2, q3, q4, q5, q6, u1, u2, u3, u5, u6, hsetM, lstM, listC, and_self, retH, decide_true, decide_false, h1, h2, Bool.false_and, Bool.true_and]
    | true => simp only [execs_nil, execs_cons, nxt_nx, nxt_ret, fin_nx, fin_ret, exec, ev, evs, evL_L, ret_bd, pur_bd, fai_bd, thr_bd, pur_ret, opS, opN, bd_bd, ite_bd, opIf, gs0, gs1, gs2, gs3, gs4, gs5, gs6, gs7, gs8, gs9, gs10, ss0, ss1, ss2, ss3, ss4, ss5, ss6, ss7, ss8, ss9, ss10, setTg, setTgs, Option.bind_some, Option.map_some, Option.map_none, truth, truthD, cmpD, cmpP, eqD, binP, isiM, isiAny, isiD, b1M, b1P, b2P, ixM, ixP, mkC_call, mkC_dfl, mkC_glo, mkC_sup, List.map, List.replicate, List.cons_append, List.nil_append, List.append_nil, Nat.reduceSub, List.reduceReplicate, Int.reduceLT, Int.reduceLE, Int.reduceEq, if_true, if_false, Bool.or_false, Bool.or_true, Bool.false_eq_true, Bool.not_true, Bool.not_false, Bool.true_and, Bool.and_true, decide_eq_true_eq, cellP, putP, q0, q1, q2, q3, q4, q5, q6, u1, u2, u3, u5, u6, hsetM, lstM, listC, and_self, retH, decide_true, decide_false, h1, h2, Bool.true_and, List.length_map]
theorem tk3 (hp : 0 ≤ p) : ∃ (p' r' l' q' : Int) (y : Sl), 0 ≤ p' ∧
    exec C s3_294 [.val (.ref n), y1, y2, y3, y4, y5, y6] (g.put n (SL zs p r c s l q)) = .ok (.nx, [.val (.ref n), y1, y, y3, y4, y5, y6]) (g.put n (SL zs p' r' c s l' q')) := by
  unfold s3_294
  cases hb : (decide (r < 2) && (decide (l < 1) && decide (p < (zs.length : Int)))) with
  | false => exact ⟨p, r, l, q, y2, hp, by rw [exH_f (k5 false hb.symm), execs_nil, retH]⟩
  | true =>
    simp only [Bool.and_eq_true, decide_eq_true_eq] at hb
    have hb' := hb
    obtain ⟨h1, h2, h3⟩ := hb
    have hx : ∃ x, getD (zs.map D.int) p = some (.int x) := by
      obtain ⟨j, rfl⟩ := Int.eq_ofNat_of_zero_le hp
      have hj : j < zs.length := by omega
      refine ⟨zs[j], ?_⟩
      rw [getD_nat (by rw [List.length_map]; exact hj), List.getElem?_map, List.getElem?_eq_getElem hj]
      rfl
    obtain ⟨x, hx⟩ := hx
    have ht := k5 (C := C) (g := g) (n := n) (zs := zs) (p := p) (r := r) (c := c) (s := s) (l := l) (q := q) (y1 := y1) (y2 := y2) (y3 := y3) (y4 := y4) (y5 := y5) (y6 := y6) true (by simp [h1, h2, h3])
    by_cases h4 : (x.natAbs : Int) < P18
    · exact ⟨p + 1, r, 2, x, .val (.int x), by omega, by rw [exH_t ht, seqH_nx (k1 hx), seqH_nx k2, seqH_nx (k3 h4), execs_nil, retH]⟩
    · exact ⟨p + 1, x.natAbs, l, q, .val (.int x), by omega, by rw [exH_t ht, seqH_nx (k1 hx), seqH_nx k2, seqH_nx (k4 h4), execs_nil, retH]⟩
theorem k6 {m : Int} (h : 1 < r) (hm : m ≠ 0) (hl : m.natAbs.log2 < 9000) : exec C (.iff (.cmp .Gt (.ix (.v 0) (.c (.int 2))) (.c (.int 1))) [.set 3 (.bin .Mod (.b1 .int (.ix (.v 0) (.c (.int 2)))) (.v 1)),
  .hset (.v 0) (.c (.int 2)) (.bin .FloorDiv (.ix (.v 0) (.c (.int 2))) (.v 1)), .ret (.v 3)] []) [.val (.ref n), .val (.int m), y2, y3, y4, y5, y6] (g.put n (SL zs p r c s l q)) = .ok (.ret (.int (r.fmod m)), [.val (.ref n), .val (.int m), y2, .val (.int (r.fmod m)), y4, y5, y6]) (g.put n (SL zs p (r.fdiv m) c s l q)) := by
  unfold SL
  simp only [execs_nil, execs_cons, nxt_nx, nxt_ret, fin_nx, fin_ret, exec, ev, evs, evL_L, ret_bd, pur_bd, fai_bd, thr_bd, pur_ret, opS, opN, bd_bd, ite_bd, opIf, gs0, gs1, gs2, gs3, gs4, gs5, gs6, gs7, gs8, gs9, gs10, ss0, ss1, ss2, ss3, ss4, ss5, ss6, ss7, ss8, ss9, ss10, setTg, setTgs, Option.bind_some, Option.map_some, Option.map_none, truth, truthD, cmpD, cmpP, eqD, binP, isiM, isiAny, isiD, b1M, b1P, b2P, ixM, ixP, mkC_call, mkC_dfl, mkC_glo, mkC_sup, List.map, List.replicate, List.cons_append, List.nil_append, List.append_nil, Nat.reduceSub, List.reduceReplicate, Int.reduceLT, Int.reduceLE, Int.reduceEq, if_true, if_false, Bool.or_false, Bool.or_true, Bool.false_eq_true, Bool.not_true, Bool.not_false, Bool.true_and, Bool.and_true, decide_eq_true_eq, cellP, putP, q0, q1, q2, q3, q4, q5, q6, u1, u2, u3, u5, u6, hsetM, lstM, listC, and_self, retH, decide_true, decide_false, h, hm, hl, ne_eq, not_false_eq_true]
theorem k6n {m : Int} (h : ¬ 1 < r) {b : List PL.St} : exec C (.iff (.cmp .Gt (.ix (.v 0) (.c (.int 2))) (.c (.int 1))) b []) [.val (.ref n), y1, y2, y3, y4, y5, y6] (g.put n (SL zs p r c s l q)) = .ok (.nx, [.val (.ref n), y1, y2, y3, y4, y5, y6]) (g.put n (SL zs p r c s l q)) := by
  unfold SL
  simp only [execs_nil, execs_cons, nxt_nx, nxt_ret, fin_nx, fin_ret, exec, ev, evs, evL_L, ret_bd, pur_bd, fai_bd, thr_bd, pur_ret, opS, opN, bd_bd, ite_bd, opIf, gs0, gs1, gs2, gs3, gs4, gs5, gs6, gs7, gs8, gs9, gs10, ss0, ss1, ss2, ss3, ss4, ss5, ss6, ss7, ss8, ss9, ss10, setTg, setTgs, Option.bind_some, Option.map_some, Option.map_none, truth, truthD, cmpD, cmpP, eqD, binP, isiM, isiAny, isiD, b1M, b1P, b2P, ixM, ixP, mkC_call, mkC_dfl, mkC_glo, mkC_sup, List.map, List.replicate, List.cons_append, List.nil_append, List.append_nil, Nat.reduceSub, List.reduceReplicate, Int.reduceLT, Int.reduceLE, Int.reduceEq, if_true, if_false, Bool.or_false, Bool.or_true, Bool.false_eq_true, Bool.not_true, Bool.not_false, Bool.true_and, Bool.and_true, decide_eq_true_eq, cellP, putP, q0, q1, q2, q3, q4, q5, q6, u1, u2, u3, u5, u6, hsetM, lstM, listC, and_self, retH, decide_true, decide_false, h]
theorem k7 : exec C (.set 4 (.ix (.v 0) (.c (.int 4)))) [.val (.ref n), y1, y2, y3, y4, y5, y6] (g.put n (SL zs p r c s l q)) = .ok (.nx, [.val (.ref n), y1, y2, y3, .val (.int s), y5, y6]) (g.put n (SL zs p r c s l q)) := by
  unfold SL
  simp only [execs_nil, execs_cons, nxt_nx, nxt_ret, fin_nx, fin_ret, exec, ev, evs, evL_L, ret_bd, pur_bd, fai_bd, thr_bd, pur_ret, opS, opN, bd_bd, ite_bd, opIf, gs0, gs1, gs2, gs3, gs4, gs5, gs6, gs7, gs8, gs9, gs10, ss0, ss1, ss2, ss3, ss4, ss5, ss6, ss7, ss8, ss9, ss10, setTg, setTgs, Option.bind_some, Option.map_some, Option.map_none, truth, truthD, cmpD, cmpP, eqD, binP, isiM, isiAny, isiD, b1M, b1P, b2P, ixM, ixP, mkC_call, mkC_dfl, mkC_glo, mkC_sup, List.map, List.replicate, List.cons_append, List.nil_append, List.append_nil, Nat.reduceSub, List.reduceReplicate, Int.reduceLT, Int.reduceLE, Int.reduceEq, if_true, if_false, Bool.or_false, Bool.or_true, Bool.false_eq_true, Bool.not_true, Bool.not_false, Bool.true_and, Bool.and_true, decide_eq_true_eq, cellP, putP, q0, q1, q2, q3, q4, q5, q6, u1, u2, u3, u5, u6, hsetM, lstM, listC, and_self, retH, decide_true, decide_false]
theorem k8 : ∃ (w l' : Int), exec C (.iff (.cmp .Gt (.ix (.v 0) (.c (.int 5))) (.c (.int 0))) [.hset (.v 0) (.c (.int 5)) (.bin .Sub (.ix (.v 0) (.c (.int 5))) (.c (.int 1))), .set 4 (.ix (.v 0) (.c (.int 6)))] [])
    [.val (.ref n), y1, y2, y3, .val (.int x), y5, y6] (g.put n (SL zs p r c s l q)) = .ok (.nx, [.val (.ref n), y1, y2, y3, .val (.int w), y5, y6]) (g.put n (SL zs p r c s l' q)) := by
  by_cases h : 0 < l
  · refine ⟨q, l - 1, ?_⟩
    unfold SL
    simp only [execs_nil, execs_cons, nxt_nx, nxt_ret, fin_nx, fin_ret, exec, ev, evs, evL_L, ret_bd, pur_bd, fai_bd, thr_bd, pur_ret, opS, opN, bd_bd, ite_bd, opIf, gs0, gs1, gs2, gs3, gs4, gs5, gs6, gs7, gs8, gs9, gs10, ss0, ss1, ss2, ss3, ss4, ss5, ss6, ss7, ss8, ss9, ss10, setTg, setTgs, Option.bind_some, Option.map_some, Option.map_none, truth, truthD, cmpD, cmpP, eqD, binP, isiM, isiAny, isiD, b1M, b1P, b2P, ixM, ixP, mkC_call, mkC_dfl, mkC_glo, mkC_sup, List.map, List.replicate, List.cons_append, List.nil_append, List.append_nil, Nat.reduceSub, List.reduceReplicate, Int.reduceLT, Int.reduceLE, Int.reduceEq, if_true, if_false, Bool.or_false, Bool.or_true, Bool.false_eq_true, Bool.not_true, Bool.not_false, Bool.true_and, Bool.and_true, decide_eq_true_eq, cellP, putP, q0, q1, q2, q3, q4, q5, q6, u1, u2, u3, u5, u6, hsetM, lstM, listC, and_self, retH, decide_true, decide_false, h]
  · refine ⟨x, l, ?_⟩
    unfold SL
    simp only [execs_nil, execs_cons, nxt_nx, nxt_ret, fin_nx, fin_ret, exec, ev, evs, evL_L, ret_bd, pur_bd, fai_bd, thr_bd, pur_ret, opS, opN, bd_bd, ite_bd, opIf, gs0, gs1, gs2, gs3, gs4, gs5, gs6, gs7, gs8, gs9, gs10, ss0, ss1, ss2, ss3, ss4, ss5, ss6, ss7, ss8, ss9, ss10, setTg, setTgs, Option.bind_some, Option.map_some, Option.map_none, truth, truthD, cmpD, cmpP, eqD, binP, isiM, isiAny, isiD, b1M, b1P, b2P, ixM, ixP, mkC_call, mkC_dfl, mkC_glo, mkC_sup, List.map, List.replicate, List.cons_append, List.nil_append, List.append_nil, Nat.reduceSub, List.reduceReplicate, Int.reduceLT, Int.reduceLE, Int.reduceEq, if_true, if_false, Bool.or_false, Bool.or_true, Bool.false_eq_true, Bool.not_true, Bool.not_false, Bool.true_and, Bool.and_true, decide_eq_true_eq, cellP, putP, q0, q1, q2, q3, q4, q5, q6, u1, u2, u3, u5, u6, hsetM, lstM, listC, and_self, retH, decide_true, decide_false, h]
theorem k0 : exec C (.hset (.v 0) (.c (.int 3)) (.bin .Add (.ix (.v 0) (.c (.int 3))) (.c (.int 1)))) [.val (.ref n), y1, y2, y3, y4, y5, y6] (g.put n (SL zs p r c s l q)) = .ok (.nx, [.val (.ref n), y1, y2, y3, y4, y5, y6]) (g.put n (SL zs p r (c + 1) s l q)) := by
  unfold SL
  simp only [execs_nil, execs_cons, nxt_nx, nxt_ret, fin_nx, fin_ret, exec, ev, evs, evL_L, ret_bd, pur_bd, fai_bd, thr_bd, pur_ret, opS, opN, bd_bd, ite_bd, opIf, gs0, gs1, gs2, gs3, gs4, gs5, gs6, gs7, gs8, gs9, gs10, ss0, ss1, ss2, ss3, ss4, ss5, ss6, ss7, ss8, ss9, ss10, setTg, setTgs, Option.bind_some, Option.map_some, Option.map_none, truth, truthD, cmpD, cmpP, eqD, binP, isiM, isiAny, isiD, b1M, b1P, b2P, ixM, ixP, mkC_call, mkC_dfl, mkC_glo, mkC_sup, List.map, List.replicate, List.cons_append, List.nil_append, List.append_nil, Nat.reduceSub, List.reduceReplicate, Int.reduceLT, Int.reduceLE, Int.reduceEq, if_true, if_false, Bool.or_false, Bool.or_true, Bool.false_eq_true, Bool.not_true, Bool.not_false, Bool.true_and, Bool.and_true, decide_eq_true_eq, cellP, putP, q0, q1, q2, q3, q4, q5, q6, u1, u2, u3, u5, u6, hsetM, lstM, listC, and_self, retH, decide_true, decide_false]
theorem k9 {v w t : Int} {kk : Int} (m1 : mulOk v 268435456 = true) (m2 : mulOk c 64 = true) (hc : C.call 199 ([.int x, .int (c * 64 + kk)] ++ C.dfl 199 0) = M.ret (.int w)) :
    execs C [.set 5 (.bin .Add (.bin .Mult (.v 5) (.c (.int 268435456))) (.call 199 0 [(.v 4), (.bin .Add (.bin .Mult (.ix (.v 0) (.c (.int 3))) (.c (.int 64))) (.v 6))]))] [.val (.ref n), y1, y2, y3, .val (.int x), .val (.int v), .val (.int kk)] (g.put n (SL zs p r c s l q)) =
    .ok (.nx, [.val (.ref n), y1, y2, y3, .val (.int x), .val (.int (v * 268435456 + w)), .val (.int kk)]) (g.put n (SL zs p r c s l q)) := by
  have hc : C.call 199 (.int x :: .int (c * 64 + kk) :: C.dfl 199 0) = M.ret (.int w) := hc
  unfold SL
  simp only [execs_nil, execs_cons, nxt_nx, nxt_ret, fin_nx, fin_ret, exec, ev, evs, evL_L, ret_bd, pur_bd, fai_bd, thr_bd, pur_ret, opS, opN, bd_bd, ite_bd, opIf, gs0, gs1, gs2, gs3, gs4, gs5, gs6, gs7, gs8, gs9, gs10, ss0, ss1, ss2, ss3, ss4, ss5, ss6, ss7, ss8, ss9, ss10, setTg, setTgs, Option.bind_some, Option.map_some, Option.map_none, truth, truthD, cmpD, cmpP, eqD, binP, isiM, isiAny, isiD, b1M, b1P, b2P, ixM, ixP, mkC_call, mkC_dfl, mkC_glo, mkC_sup, List.map, List.replicate, List.cons_append, List.nil_append, List.append_nil, Nat.reduceSub, List.reduceReplicate, Int.reduceLT, Int.reduceLE, Int.reduceEq, if_true, if_false, Bool.or_false, Bool.or_true, Bool.false_eq_true, Bool.not_true, Bool.not_false, Bool.true_and, Bool.and_true, decide_eq_true_eq, cellP, putP, q0, q1, q2, q3, q4, q5, q6, u1, u2, u3, u5, u6, hsetM, lstM, listC, and_self, retH, decide_true, decide_false, m1, m2, hc]
end
theorem forM_nxH {f : D → PL.Env → Option PL.Env} {b : MS} {x : D} {xs : List D} {ρ ρ1 ρ2 : PL.Env} {h h' : Hs} (h1 : f x ρ = some ρ1) (h2 : b ρ1 h = .ok (.nx, ρ2) h') : forM f b (x :: xs) ρ h = forM f b xs ρ2 h' := by
  rw [forM, h1, opS, ret_bd, bndH h2]
theorem forM_invN {f : D → PL.Env → Option PL.Env} {b : MS} (J : Nat → PL.Env → Hs → Prop) : ∀ (xs : List D) (i : Nat), (∀ x ∈ xs, ∀ j ρ h, j < i + xs.length → J j ρ h → ∃ ρ1 ρ2 h', f x ρ = some ρ1 ∧ b ρ1 h = .ok (.nx, ρ2) h' ∧ J (j + 1) ρ2 h') → ∀ ρ h, J i ρ h →
    ∃ ρ' h', forM f b xs ρ h = .ok (.nx, ρ') h' ∧ J (i + xs.length) ρ' h'
  | [], i, _, ρ, h, hJ => ⟨ρ, h, by rw [forM_nil, retH], hJ⟩
  | x :: xs, i, hx, ρ, h, hJ => by
    obtain ⟨ρ1, ρ2, h1, e1, e2, h2⟩ := hx x List.mem_cons_self i ρ h (by rw [List.length_cons]; omega) hJ
    obtain ⟨ρ', h', e3, h3⟩ := forM_invN J xs (i + 1) (fun y hy j ρ h hj => hx y (List.mem_cons_of_mem _ hy) j ρ h (by rw [List.length_cons]; omega)) ρ2 h1 h2
    exact ⟨ρ', h', (forM_nxH e1 e2).trans e3, by rw [List.length_cons, show i + (xs.length + 1) = i + 1 + xs.length by omega]; exact h3⟩
theorem ex_frH {C : Cfg} {tg : Tg} {it : Ex} {b : List PL.St} {ρ : PL.Env} {xs : List D} {r : Fl × PL.Env} {h h1 h' : Hs} (e : evI C it ρ h = .ok xs h1) (hf : forM (setTg tg) (execs C b) xs ρ h1 = .ok r h') : exec C (.fr tg it b) ρ h = .ok r h' := by
  rw [exec, bndH e, hf]
theorem p900 : (2 : Nat) ^ 70 < 2 ^ 900 := by decide +kernel
/-- _law_take -/
theorem tk1 (k n B : Nat) (m : Int) (h : Hs) (hs : Sto n B h) (hB : B + 1 ≤ 2 ^ 60) (hm : m.natAbs < 2 ^ 190) : ∃ z h', callF pg (k + 2) 294 [.ref n, .int m] h = .ok (.int z) h' ∧ 0 ≤ z ∧ (z < m ∨ (m < 2 ∧ z = 0)) ∧ Sto n (B + 1) h' := by
  obtain ⟨g, zs, p, r, c, s, l, q, rfl, hp, hc, hz⟩ := hs
  rw [callS (k := k + 1) (d := ⟨2, 7, ir294⟩) rfl rfl]
  have hmx := fun (a t : Int) (ht : t.natAbs < 2 ^ 900) => mx1 k a t ht
  generalize hC : mkC pg (callF pg (k + 1)) = C
  have hcall : C.call = callF pg (k + 1) := by rw [← hC]; rfl
  have hdfl : C.dfl 199 0 = [] := by rw [← hC]; rfl
  show ∃ z h', (execs C ir294 [.val (.ref n), .val (.int m), .non, .non, .non, .non, .non] >>= fin) _ = _ ∧ _
  by_cases m2 : m < 2
  · refine ⟨0, g.put n (SL zs p r c s l q), ?_, by omega, .inr ⟨m2, rfl⟩, g, zs, p, r, c, s, l, q, rfl, hp, by omega, hz⟩
    have e : execs C ir294 [.val (.ref n), .val (.int m), .non, .non, .non, .non, .non] (g.put n (SL zs p r c s l q)) = .ok (.ret (.int 0), [.val (.ref n), .val (.int m), .non, .non, .non, .non, .non]) (g.put n (SL zs p r c s l q)) := by
      unfold ir294
      exact seqH_ret (by simp only [execs_nil, execs_cons, nxt_nx, nxt_ret, fin_nx, fin_ret, exec, ev, evs, evL_L, ret_bd, pur_bd, fai_bd, thr_bd, pur_ret, opS, opN, bd_bd, ite_bd, opIf, gs0, gs1, gs2, gs3, gs4, gs5, gs6, gs7, gs8, gs9, gs10, ss0, ss1, ss2, ss3, ss4, ss5, ss6, ss7, ss8, ss9, ss10, setTg, setTgs, Option.bind_some, Option.map_some, Option.map_none, truth, truthD, cmpD, cmpP, eqD, binP, isiM, isiAny, isiD, b1M, b1P, b2P, ixM, ixP, mkC_call, mkC_dfl, mkC_glo, mkC_sup, List.map, List.replicate, List.cons_append, List.nil_append, List.append_nil, Nat.reduceSub, List.reduceReplicate, Int.reduceLT, Int.reduceLE, Int.reduceEq, if_true, if_false, Bool.or_false, Bool.or_true, Bool.false_eq_true, Bool.not_true, Bool.not_false, Bool.true_and, Bool.and_true, decide_eq_true_eq, m2, decide_true, retH])
    rw [bndH e]
    rfl
  · have e1 : exec C (.iff (.cmp .Lt (.v 1) (.c (.int 2))) [.ret (.c (.int 0))] []) [.val (.ref n), .val (.int m), .non, .non, .non, .non, .non] (g.put n (SL zs p r c s l q)) = .ok (.nx, [.val (.ref n), .val (.int m), .non, .non, .non, .non, .non]) (g.put n (SL zs p r c s l q)) := by
      simp only [execs_nil, execs_cons, nxt_nx, nxt_ret, fin_nx, fin_ret, exec, ev, evs, evL_L, ret_bd, pur_bd, fai_bd, thr_bd, pur_ret, opS, opN, bd_bd, ite_bd, opIf, gs0, gs1, gs2, gs3, gs4, gs5, gs6, gs7, gs8, gs9, gs10, ss0, ss1, ss2, ss3, ss4, ss5, ss6, ss7, ss8, ss9, ss10, setTg, setTgs, Option.bind_some, Option.map_some, Option.map_none, truth, truthD, cmpD, cmpP, eqD, binP, isiM, isiAny, isiD, b1M, b1P, b2P, ixM, ixP, mkC_call, mkC_dfl, mkC_glo, mkC_sup, List.map, List.replicate, List.cons_append, List.nil_append, List.append_nil, Nat.reduceSub, List.reduceReplicate, Int.reduceLT, Int.reduceLE, Int.reduceEq, if_true, if_false, Bool.or_false, Bool.or_true, Bool.false_eq_true, Bool.not_true, Bool.not_false, Bool.true_and, Bool.and_true, decide_eq_true_eq, m2, decide_false, retH]
    have hm0 : m ≠ 0 := by omega
    have hml : m.natAbs.log2 < 9000 := Nat.lt_of_le_of_lt (log_le hm) (by decide)
    obtain ⟨p', r', l', q', y, hp', e3⟩ := tk3 (C := C) (g := g) (n := n) (zs := zs) (r := r) (c := c + 1) (s := s) (l := l) (q := q) (y1 := .val (.int m)) (y2 := .non) (y3 := .non) (y4 := .non) (y5 := .non) (y6 := .non) hp
    have hc1 : (c + 1).natAbs ≤ B + 1 := by omega
    by_cases h1 : 1 < r'
    · obtain ⟨f1, f2⟩ := fm (a := r') (b := m) (by omega)
      refine ⟨r'.fmod m, _, ?_, f1, .inl f2, g, zs, p', r'.fdiv m, c + 1, s, l', q', rfl, hp', hc1, hz⟩
      rw [bndH (show execs C ir294 _ _ = _ from (seqH_nx e1).trans ((seqH_nx k0).trans ((seqH_nx e3).trans (seqH_ret (k6 h1 hm0 hml)))))]
      rfl
    · -- from the seed
      obtain ⟨w, l2, e8⟩ := k8 (C := C) (g := g) (n := n) (zs := zs) (p := p') (r := r') (c := c + 1) (s := s) (l := l') (q := q') (x := s) (y1 := .val (.int m)) (y2 := y) (y3 := .non) (y5 := .non) (y6 := .non)
      generalize hG : g.put n (SL zs p' r' (c + 1) s l2 q') = h8 at e8
      have hb : Builtin.Int.intBits m ≤ 190 := by
        unfold Builtin.Int.intBits
        have e0 : (m == 0) = false := by simpa using hm0
        rw [e0]
        have h0 : m.natAbs ≠ 0 := by omega
        have := (Nat.log2_lt h0).mpr hm
        show m.natAbs.log2 + 1 ≤ 190
        omega
      generalize hN : (1 + (Builtin.Int.intBits m : Int).fdiv 24).toNat = N
      have hNv : (1 + (Builtin.Int.intBits m : Int).fdiv 24) = (N : Int) := by
        rw [fd (by decide)] at hN ⊢
        omega
      have hN9 : N ≤ 9 := by rw [fd (by decide)] at hN; omega
      have n24 : (24 : Int) ≠ 0 ∧ (24 : Int).natAbs.log2 < 9000 := by decide
      have eI : evI C (.Ir1 (.bin .Add (.c (.int 1)) (.bin .FloorDiv (.sm .bits (.v 1) []) (.c (.int 24))))) [.val (.ref n), .val (.int m), y, .non, .val (.int w), .val (.int 0), .non] = M.ret (rngD 0 N) := by
        refine evI_r1 ?_ (rng_small (by omega))
        simp only [execs_nil, execs_cons, nxt_nx, nxt_ret, fin_nx, fin_ret, exec, ev, evs, evL_L, ret_bd, pur_bd, fai_bd, thr_bd, pur_ret, opS, opN, bd_bd, ite_bd, opIf, gs0, gs1, gs2, gs3, gs4, gs5, gs6, gs7, gs8, gs9, gs10, ss0, ss1, ss2, ss3, ss4, ss5, ss6, ss7, ss8, ss9, ss10, setTg, setTgs, Option.bind_some, Option.map_some, Option.map_none, truth, truthD, cmpD, cmpP, eqD, binP, isiM, isiAny, isiD, b1M, b1P, b2P, ixM, ixP, mkC_call, mkC_dfl, mkC_glo, mkC_sup, List.map, List.replicate, List.cons_append, List.nil_append, List.append_nil, Nat.reduceSub, List.reduceReplicate, Int.reduceLT, Int.reduceLE, Int.reduceEq, if_true, if_false, Bool.or_false, Bool.or_true, Bool.false_eq_true, Bool.not_true, Bool.not_false, Bool.true_and, Bool.and_true, decide_eq_true_eq, smR, smP, n24, ne_eq, not_false_eq_true, and_self]
        rw [hNv]
      obtain ⟨ρ', h', eL, hJ⟩ := forM_invN (f := setTg (.n 6)) (b := execs C [.set 5 (.bin .Add (.bin .Mult (.v 5) (.c (.int 268435456))) (.call 199 0 [(.v 4), (.bin .Add (.bin .Mult (.ix (.v 0) (.c (.int 3))) (.c (.int 64))) (.v 6))]))])
        (fun i ρ h => h = h8 ∧ ∃ (v : Int) (z6 : Sl), v.natAbs < 2 ^ (28 * (i + 1)) ∧ ρ = [.val (.ref n), .val (.int m), y, .non, .val (.int w), .val (.int v), z6]) (rngD 0 N) 0 (fun x hx j ρ h hj ⟨hh, v, z6, hv, hρ⟩ => by
          unfold rngD at hx hj
          obtain ⟨i, hi, rfl⟩ := List.mem_map.mp hx
          rw [List.length_map, List.length_range] at hj
          have hi2 : i < N := by have := List.mem_range.mp hi; omega
          have hj2 : j < 9 := by omega
          subst hρ hh
          have b28 : (2 : Nat) ^ (28 * (j + 1)) ≤ 2 ^ 300 := Nat.pow_le_pow_right (by decide) (by omega)
          have b28' : (2 : Nat) ^ (28 * (j + 1)) < 2 ^ 1000 := Nat.lt_of_le_of_lt b28 (by decide +kernel)
          have ct : ((c + 1) * 64 + (0 + (i : Int))).natAbs < 2 ^ 900 := Nat.lt_trans (show _ < 2 ^ 70 by omega) p900
          obtain ⟨u, e9, u0, u1⟩ := hmx w ((c + 1) * 64 + (0 + (i : Int))) ct
          have mm1 := mk_of (i := v) (j := 268435456) (Nat.lt_trans hv b28') (pC (by decide))
          have mm2 := mk_of (i := c + 1) (j := 64) (Nat.lt_trans (show (c + 1).natAbs < 2 ^ 61 by omega) (by decide +kernel)) (pC (by decide))
          have e10 := k9 (C := C) (g := g) (n := n) (zs := zs) (p := p') (r := r') (c := c + 1) (s := s) (l := l2) (q := q') (x := w) (y1 := .val (.int m)) (y2 := y) (y3 := .non) (v := v) (w := u) (t := 0) (kk := 0 + (i : Int)) mm1 mm2 (by rw [hcall, hdfl]; exact e9)
          rw [hG] at e10
          refine ⟨_, _, h, ss6, e10, rfl, v * 268435456 + u, _, ?_, rfl⟩
          have e28 : (2 : Nat) ^ (28 * (j + 1 + 1)) = 2 ^ (28 * (j + 1)) * 268435456 := by
            rw [show 28 * (j + 1 + 1) = 28 * (j + 1) + 28 by omega, Nat.pow_add]
          rw [e28]
          generalize (2 : Nat) ^ (28 * (j + 1)) = Q at hv
          omega) [.val (.ref n), .val (.int m), y, .non, .val (.int w), .val (.int 0), .non] h8 ⟨rfl, 0, _, by decide, rfl⟩
      obtain ⟨hh, v, z6, hv, hρ⟩ := hJ
      subst hρ hh
      obtain ⟨f1, f2⟩ := fm (a := v) (b := m) (by omega)
      refine ⟨v.fmod m, _, ?_, f1, .inl f2, g, zs, p', r', c + 1, s, l2, q', hG.symm, hp', hc1, hz⟩
      have eF := ex_frH (C := C) (tg := .n 6) (h := h') (h1 := h') (by rw [eI]; exact retH) eL
      have e9 : exec C (.set 5 (.c (.int 0))) [.val (.ref n), .val (.int m), y, .non, .val (.int w), .non, .non] h' = .ok (.nx, [.val (.ref n), .val (.int m), y, .non, .val (.int w), .val (.int 0), .non]) h' := by simp only [execs_nil, execs_cons, nxt_nx, nxt_ret, fin_nx, fin_ret, exec, ev, evs, evL_L, ret_bd, pur_bd, fai_bd, thr_bd, pur_ret, opS, opN, bd_bd, ite_bd, opIf, gs0, gs1, gs2, gs3, gs4, gs5, gs6, gs7, gs8, gs9, gs10, ss0, ss1, ss2, ss3, ss4, ss5, ss6, ss7, ss8, ss9, ss10, setTg, setTgs, Option.bind_some, Option.map_some, Option.map_none, truth, truthD, cmpD, cmpP, eqD, binP, isiM, isiAny, isiD, b1M, b1P, b2P, ixM, ixP, mkC_call, mkC_dfl, mkC_glo, mkC_sup, List.map, List.replicate, List.cons_append, List.nil_append, List.append_nil, Nat.reduceSub, List.reduceReplicate, Int.reduceLT, Int.reduceLE, Int.reduceEq, if_true, if_false, Bool.or_false, Bool.or_true, Bool.false_eq_true, Bool.not_true, Bool.not_false, Bool.true_and, Bool.and_true, decide_eq_true_eq, retH]
      have eR : exec C (.ret (.bin .Mod (.v 5) (.v 1))) [.val (.ref n), .val (.int m), y, .non, .val (.int w), .val (.int v), z6] h' = .ok (.ret (.int (v.fmod m)), [.val (.ref n), .val (.int m), y, .non, .val (.int w), .val (.int v), z6]) h' := by
        simp only [execs_nil, execs_cons, nxt_nx, nxt_ret, fin_nx, fin_ret, exec, ev, evs, evL_L, ret_bd, pur_bd, fai_bd, thr_bd, pur_ret, opS, opN, bd_bd, ite_bd, opIf, gs0, gs1, gs2, gs3, gs4, gs5, gs6, gs7, gs8, gs9, gs10, ss0, ss1, ss2, ss3, ss4, ss5, ss6, ss7, ss8, ss9, ss10, setTg, setTgs, Option.bind_some, Option.map_some, Option.map_none, truth, truthD, cmpD, cmpP, eqD, binP, isiM, isiAny, isiD, b1M, b1P, b2P, ixM, ixP, mkC_call, mkC_dfl, mkC_glo, mkC_sup, List.map, List.replicate, List.cons_append, List.nil_append, List.append_nil, Nat.reduceSub, List.reduceReplicate, Int.reduceLT, Int.reduceLE, Int.reduceEq, if_true, if_false, Bool.or_false, Bool.or_true, Bool.false_eq_true, Bool.not_true, Bool.not_false, Bool.true_and, Bool.and_true, decide_eq_true_eq, hm0, ne_eq, not_false_eq_true, retH]
      rw [bndH (show execs C ir294 _ _ = _ from (seqH_nx e1).trans ((seqH_nx k0).trans ((seqH_nx e3).trans ((seqH_nx (k6n (m := m) h1)).trans ((seqH_nx k7).trans ((seqH_nx e8).trans ((seqH_nx e9).trans ((seqH_nx eF).trans (seqH_ret eR)))))))))]
      rfl
end PL.k71
end
section
set_option Elab.async false
set_option linter.all false
set_option maxRecDepth 100000
/-! K71C8: numbers and fractions drawn. -/
namespace PL
open PySem PL
theorem ex_setH {C : Cfg} {i : Nat} {e : Ex} {d : D} {ρ ρ' : PL.Env} {h h' : Hs} (he : ev C e ρ h = .ok d h') (hs : setSl ρ i d = some ρ') : exec C (.set i e) ρ h = .ok (.nx, ρ') h' := by
  rw [exec, bndH he, hs]
  rfl
theorem ex_retH {C : Cfg} {e : Ex} {d : D} {ρ : PL.Env} {h h' : Hs} (he : ev C e ρ h = .ok d h') : exec C (.ret e) ρ h = .ok (.ret d, ρ) h' := by
  rw [exec, bndH he]
  rfl
theorem finR {C : Cfg} {ss : List PL.St} {ρ ρ' : PL.Env} {d : D} {h h' : Hs} (e : execs C ss ρ h = .ok (.ret d, ρ') h') : (execs C ss ρ >>= fin) h = .ok d h' := by
  rw [bndH e]
  rfl
end PL
namespace PL.k71
open PySem PL
open SX _root_.TL
/-- what take gives, where it is called -/
def TkC (C : Cfg) (n : Nat) : Prop := ∀ (B : Nat) (m : Int) (h : Hs), Sto n B h → B + 1 ≤ 2 ^ 60 → m.natAbs < 2 ^ 190 → ∃ z h', C.call 294 [.ref n, .int m] h = .ok (.int z) h' ∧ 0 ≤ z ∧ (z < m ∨ (m < 2 ∧ z = 0)) ∧ Sto n (B + 1) h'
theorem tkC (k n : Nat) : TkC (mkC pg (callF pg (k + 2))) n := fun B m h hs hB hm => tk1 k n B m h hs hB hm
theorem dl {c} (f : Nat) : (mkC pg c).dfl f 0 = pg.dfl f 0 := rfl
/-- _law_pick -/
theorem pk1 (k n B : Nat) (ds : List D) (h : Hs) (hs : Sto n B h) (hB : B + 1 ≤ 2 ^ 60) (h0 : ds ≠ []) (hl : ds.length < 2 ^ 100) : ∃ d h', callF pg (k + 3) 224 [.ref n, .lst ds] h = .ok d h' ∧ d ∈ ds ∧ Sto n (B + 1) h' := by
  rw [callS (k := k + 2) (d := ⟨2, 2, ir224⟩) rfl rfl]
  have T := tkC k n
  have d1 : (mkC pg (callF pg (k + 2))).dfl 294 0 = [] := rfl
  generalize mkC pg (callF pg (k + 2)) = C at T d1 ⊢
  have hl1 : 1 ≤ ds.length := List.length_pos_iff.mpr h0
  obtain ⟨z, h', e, z0, z1, s'⟩ := T B ds.length h hs hB (by rw [Int.natAbs_natCast]; exact Nat.lt_trans hl (by decide +kernel))
  obtain ⟨j, rfl⟩ := Int.eq_ofNat_of_zero_le z0
  have hj : j < ds.length := by omega
  have g : getD ds (j : Int) = some ds[j] := by rw [getD_nat hj, List.getElem?_eq_getElem hj]
  refine ⟨ds[j], h', finR (ρ' := [.val (.ref n), .val (.lst ds)]) ?_, List.getElem_mem hj, s'⟩
  show execs C ir224 [.val (.ref n), .val (.lst ds)] h = _
  unfold ir224
  refine seqH_ret (ex_retH ?_)
  simp only [execs_nil, execs_cons, nxt_nx, nxt_ret, fin_nx, fin_ret, exec, ev, evs, evL_L, ret_bd, pur_bd, fai_bd, thr_bd, pur_ret, opS, opN, bd_bd, ite_bd, opIf, gs0, gs1, gs2, gs3, gs4, gs5, gs6, gs7, gs8, gs9, gs10, ss0, ss1, ss2, ss3, ss4, ss5, ss6, ss7, ss8, ss9, ss10, setTg, setTgs, Option.bind_some, Option.map_some, Option.map_none, truth, truthD, cmpD, cmpP, eqD, binP, isiM, isiAny, isiD, b1M, b1P, b2P, ixM, ixP, mkC_call, mkC_dfl, mkC_glo, mkC_sup, List.map, List.replicate, List.cons_append, List.nil_append, List.append_nil, Nat.reduceSub, List.reduceReplicate, Int.reduceLT, Int.reduceLE, Int.reduceEq, if_true, if_false, Bool.or_false, Bool.or_true, Bool.false_eq_true, Bool.not_true, Bool.not_false, Bool.true_and, Bool.and_true, decide_eq_true_eq, d1, bndH e, g, retH]
theorem small190 {m : Int} (h : m.natAbs < 2 ^ 100) : m.natAbs < 2 ^ 190 := Nat.lt_trans h (by decide +kernel)
theorem ten6 : ((10 : Int) ^ (6 : Int).toNat) = 1000000 := by decide +kernel
/-- _law_whole, of a million -/
theorem wh1 (k n B : Nat) (h : Hs) (hs : Sto n B h) (hB : B + 2 ≤ 2 ^ 60) : ∃ z h', callF pg (k + 3) 315 [.ref n, .int 1000000] h = .ok (.int z) h' ∧ z.natAbs ≤ 1000000 ∧ Sto n (B + 2) h' := by
  rw [callS (k := k + 2) (d := ⟨2, 3, ir315⟩) rfl rfl]
  have T := tkC k n
  have d1 : (mkC pg (callF pg (k + 2))).dfl 294 0 = [] := rfl
  generalize mkC pg (callF pg (k + 2)) = C at T d1 ⊢
  obtain ⟨z, h1, e, z0, z1, s1⟩ := T B 12 h hs (by omega) (small190 (by decide))
  show ∃ z h', (execs C ir315 [.val (.ref n), .val (.int 1000000), .non] >>= fin) h = _ ∧ _
  have e1 : exec C (.set 2 (.call 294 0 [(.v 0), (.c (.int 12))])) [.val (.ref n), .val (.int 1000000), .non] h = .ok (.nx, [.val (.ref n), .val (.int 1000000), .val (.int z)]) h1 := by
    refine ex_setH (d := .int z) ?_ ss2
    simp only [execs_nil, execs_cons, nxt_nx, nxt_ret, fin_nx, fin_ret, exec, ev, evs, evL_L, ret_bd, pur_bd, fai_bd, thr_bd, pur_ret, opS, opN, bd_bd, ite_bd, opIf, gs0, gs1, gs2, gs3, gs4, gs5, gs6, gs7, gs8, gs9, gs10, ss0, ss1, ss2, ss3, ss4, ss5, ss6, ss7, ss8, ss9, ss10, setTg, setTgs, Option.bind_some, Option.map_some, Option.map_none, truth, truthD, cmpD, cmpP, eqD, binP, isiM, isiAny, isiD, b1M, b1P, b2P, ixM, ixP, mkC_call, mkC_dfl, mkC_glo, mkC_sup, List.map, List.replicate, List.cons_append, List.nil_append, List.append_nil, Nat.reduceSub, List.reduceReplicate, Int.reduceLT, Int.reduceLE, Int.reduceEq, if_true, if_false, Bool.or_false, Bool.or_true, Bool.false_eq_true, Bool.not_true, Bool.not_false, Bool.true_and, Bool.and_true, decide_eq_true_eq, d1, e]
  by_cases h5 : z < 5
  · have key : ∃ x : Int, x.natAbs ≤ 1000000 ∧ getD [D.int 0, D.int 1, D.int (-1), D.int 1000000, D.int (-1000000)] z = some (.int x) := by
      have : z = 0 ∨ z = 1 ∨ z = 2 ∨ z = 3 ∨ z = 4 := by omega
      rcases this with rfl | rfl | rfl | rfl | rfl
      · exact ⟨0, by decide, rfl⟩
      · exact ⟨1, by decide, rfl⟩
      · exact ⟨-1, by decide, rfl⟩
      · exact ⟨1000000, by decide, rfl⟩
      · exact ⟨-1000000, by decide, rfl⟩
    obtain ⟨x, hx, g⟩ := key
    refine ⟨x, h1, finR (ρ' := [.val (.ref n), .val (.int 1000000), .val (.int z)]) ?_, hx, s1.mono (by omega)⟩
    unfold ir315
    rw [seqH_nx e1]
    refine seqH_ret ?_
    rw [exH_t (h' := h1) (by simp only [execs_nil, execs_cons, nxt_nx, nxt_ret, fin_nx, fin_ret, exec, ev, evs, evL_L, ret_bd, pur_bd, fai_bd, thr_bd, pur_ret, opS, opN, bd_bd, ite_bd, opIf, gs0, gs1, gs2, gs3, gs4, gs5, gs6, gs7, gs8, gs9, gs10, ss0, ss1, ss2, ss3, ss4, ss5, ss6, ss7, ss8, ss9, ss10, setTg, setTgs, Option.bind_some, Option.map_some, Option.map_none, truth, truthD, cmpD, cmpP, eqD, binP, isiM, isiAny, isiD, b1M, b1P, b2P, ixM, ixP, mkC_call, mkC_dfl, mkC_glo, mkC_sup, List.map, List.replicate, List.cons_append, List.nil_append, List.append_nil, Nat.reduceSub, List.reduceReplicate, Int.reduceLT, Int.reduceLE, Int.reduceEq, if_true, if_false, Bool.or_false, Bool.or_true, Bool.false_eq_true, Bool.not_true, Bool.not_false, Bool.true_and, Bool.and_true, decide_eq_true_eq, h5, decide_true, retH])]
    refine seqH_ret (ex_retH ?_)
    have l5 : (5 : Nat) ≤ line := by rw [hline]; decide
    simp only [execs_nil, execs_cons, nxt_nx, nxt_ret, fin_nx, fin_ret, exec, ev, evs, evL_L, ret_bd, pur_bd, fai_bd, thr_bd, pur_ret, opS, opN, bd_bd, ite_bd, opIf, gs0, gs1, gs2, gs3, gs4, gs5, gs6, gs7, gs8, gs9, gs10, ss0, ss1, ss2, ss3, ss4, ss5, ss6, ss7, ss8, ss9, ss10, setTg, setTgs, Option.bind_some, Option.map_some, Option.map_none, truth, truthD, cmpD, cmpP, eqD, binP, isiM, isiAny, isiD, b1M, b1P, b2P, ixM, ixP, mkC_call, mkC_dfl, mkC_glo, mkC_sup, List.map, List.replicate, List.cons_append, List.nil_append, List.append_nil, Nat.reduceSub, List.reduceReplicate, Int.reduceLT, Int.reduceLE, Int.reduceEq, if_true, if_false, Bool.or_false, Bool.or_true, Bool.false_eq_true, Bool.not_true, Bool.not_false, Bool.true_and, Bool.and_true, decide_eq_true_eq, List.length_cons, List.length_nil, Nat.zero_add, Nat.reduceAdd, l5]
    rw [g]
    rfl
  · obtain ⟨y, h2, e2, y0, y1, s2⟩ := T (B + 1) 2000001 h1 s1 (by omega) (small190 (by decide))
    refine ⟨y - 1000000, h2, finR (ρ' := [.val (.ref n), .val (.int 1000000), .val (.int z)]) ?_, by omega, s2⟩
    unfold ir315
    rw [seqH_nx e1, seqH_nx (ρ' := [.val (.ref n), .val (.int 1000000), .val (.int z)]) (h' := h1) (by rw [exH_f (h' := h1) (by simp only [execs_nil, execs_cons, nxt_nx, nxt_ret, fin_nx, fin_ret, exec, ev, evs, evL_L, ret_bd, pur_bd, fai_bd, thr_bd, pur_ret, opS, opN, bd_bd, ite_bd, opIf, gs0, gs1, gs2, gs3, gs4, gs5, gs6, gs7, gs8, gs9, gs10, ss0, ss1, ss2, ss3, ss4, ss5, ss6, ss7, ss8, ss9, ss10, setTg, setTgs, Option.bind_some, Option.map_some, Option.map_none, truth, truthD, cmpD, cmpP, eqD, binP, isiM, isiAny, isiD, b1M, b1P, b2P, ixM, ixP, mkC_call, mkC_dfl, mkC_glo, mkC_sup, List.map, List.replicate, List.cons_append, List.nil_append, List.append_nil, Nat.reduceSub, List.reduceReplicate, Int.reduceLT, Int.reduceLE, Int.reduceEq, if_true, if_false, Bool.or_false, Bool.or_true, Bool.false_eq_true, Bool.not_true, Bool.not_false, Bool.true_and, Bool.and_true, decide_eq_true_eq, h5, decide_false, retH]), execs_nil, retH])]
    refine seqH_ret (ex_retH ?_)
    have m1 : mulOk 2 1000000 = true := mk_of (pC (by decide)) (pC (by decide))
    simp only [execs_nil, execs_cons, nxt_nx, nxt_ret, fin_nx, fin_ret, exec, ev, evs, evL_L, ret_bd, pur_bd, fai_bd, thr_bd, pur_ret, opS, opN, bd_bd, ite_bd, opIf, gs0, gs1, gs2, gs3, gs4, gs5, gs6, gs7, gs8, gs9, gs10, ss0, ss1, ss2, ss3, ss4, ss5, ss6, ss7, ss8, ss9, ss10, setTg, setTgs, Option.bind_some, Option.map_some, Option.map_none, truth, truthD, cmpD, cmpP, eqD, binP, isiM, isiAny, isiD, b1M, b1P, b2P, ixM, ixP, mkC_call, mkC_dfl, mkC_glo, mkC_sup, List.map, List.replicate, List.cons_append, List.nil_append, List.append_nil, Nat.reduceSub, List.reduceReplicate, Int.reduceLT, Int.reduceLE, Int.reduceEq, if_true, if_false, Bool.or_false, Bool.or_true, Bool.false_eq_true, Bool.not_true, Bool.not_false, Bool.true_and, Bool.and_true, decide_eq_true_eq, m1]
    rw [show ((2 : Int) * 1000000 + 1) = 2000001 from rfl]
    simp only [execs_nil, execs_cons, nxt_nx, nxt_ret, fin_nx, fin_ret, exec, ev, evs, evL_L, ret_bd, pur_bd, fai_bd, thr_bd, pur_ret, opS, opN, bd_bd, ite_bd, opIf, gs0, gs1, gs2, gs3, gs4, gs5, gs6, gs7, gs8, gs9, gs10, ss0, ss1, ss2, ss3, ss4, ss5, ss6, ss7, ss8, ss9, ss10, setTg, setTgs, Option.bind_some, Option.map_some, Option.map_none, truth, truthD, cmpD, cmpP, eqD, binP, isiM, isiAny, isiD, b1M, b1P, b2P, ixM, ixP, mkC_call, mkC_dfl, mkC_glo, mkC_sup, List.map, List.replicate, List.cons_append, List.nil_append, List.append_nil, Nat.reduceSub, List.reduceReplicate, Int.reduceLT, Int.reduceLE, Int.reduceEq, if_true, if_false, Bool.or_false, Bool.or_true, Bool.false_eq_true, Bool.not_true, Bool.not_false, Bool.true_and, Bool.and_true, decide_eq_true_eq, d1, bndH e2, retH]
/-- lowest terms are a fraction -/
theorem low_is {x d : Int} (h : 1 ≤ d) : ∃ a b, lowL x d = fr a b ∧ isF a b = true ∧ a.natAbs ≤ x.natAbs ∧ b.natAbs ≤ d.natAbs := by
  have g0 : 0 < Int.gcd x d := Int.gcd_pos_of_ne_zero_right x (by omega)
  refine ⟨x.fdiv (Int.gcd x d), d.fdiv (Int.gcd x d), ?_, ?_, ?_, ?_⟩
  · unfold lowL
    rw [if_neg (by omega), if_neg (by omega)]
  · refine isF_iff.mpr ⟨?_, ?_⟩
    · rw [fd (by omega)]
      exact Int.le_ediv_of_mul_le (by omega) (by rw [Int.one_mul]; exact Int.le_of_dvd (by omega) (Int.gcd_dvd_right ..))
    · rw [fd (by omega), fd (by omega)]
      exact Int.gcd_ediv_gcd_ediv_gcd g0
  · rw [fd (by omega), Int.natAbs_ediv_of_dvd (Int.gcd_dvd_left ..)]
    exact Nat.div_le_self _ _
  · rw [fd (by omega), Int.natAbs_ediv_of_dvd (Int.gcd_dvd_right ..)]
    exact Nat.div_le_self _ _
theorem c40 : (0 : Int) ≤ 40 ∧ (40 : Int) ≤ 1000 ∧ (10 : Int).natAbs < 1000 := by decide
theorem N40_lt : N40 < 2 ^ 190 := by rw [N40_eq]; decide +kernel
theorem N40_big : 10 ^ 20 < N40 := by rw [N40_eq]; decide +kernel
theorem N40_8000 : N40 < 2 ^ 8000 := Nat.lt_trans N40_lt (by decide +kernel)
/-- a loop that only makes the number at 2 smaller -/
theorem gr_loop {C : Cfg} {w x : Sl} {h : Hs} : ∀ (xs : List D) (v : Int) (y : Sl), 0 ≤ v → ∃ (v' : Int) (y' : Sl), 0 ≤ v' ∧ v' ≤ v ∧
    forM (setTg (.n 3)) (execs C [.set 2 (.bin .FloorDiv (.v 2) (.c (.int 10)))]) xs [w, x, .val (.int v), y] h = .ok (.nx, [w, x, .val (.int v'), y']) h
  | [], v, y, h0 => ⟨v, y, h0, Int.le_refl _, by rw [forM_nil, retH]⟩
  | d :: xs, v, y, h0 => by
    have n10 : (10 : Int) ≠ 0 ∧ (10 : Int).natAbs.log2 < 9000 := by decide
    have q0 : 0 ≤ v.fdiv 10 := by rw [fd (by decide)]; omega
    have q1 : v.fdiv 10 ≤ v := by rw [fd (by decide)]; omega
    obtain ⟨v', y', a1, a2, e⟩ := gr_loop (C := C) (w := w) (x := x) (h := h) xs (v.fdiv 10) (.val d) q0
    refine ⟨v', y', a1, Int.le_trans a2 q1, ?_⟩
    rw [forM_nxH (ρ1 := [w, x, .val (.int v), .val d]) (ρ2 := [w, x, .val (.int (v.fdiv 10)), .val d]) (h' := h) ss3 (by simp only [execs_nil, execs_cons, nxt_nx, nxt_ret, fin_nx, fin_ret, exec, ev, evs, evL_L, ret_bd, pur_bd, fai_bd, thr_bd, pur_ret, opS, opN, bd_bd, ite_bd, opIf, gs0, gs1, gs2, gs3, gs4, gs5, gs6, gs7, gs8, gs9, gs10, ss0, ss1, ss2, ss3, ss4, ss5, ss6, ss7, ss8, ss9, ss10, setTg, setTgs, Option.bind_some, Option.map_some, Option.map_none, truth, truthD, cmpD, cmpP, eqD, binP, isiM, isiAny, isiD, b1M, b1P, b2P, ixM, ixP, mkC_call, mkC_dfl, mkC_glo, mkC_sup, List.map, List.replicate, List.cons_append, List.nil_append, List.append_nil, Nat.reduceSub, List.reduceReplicate, Int.reduceLT, Int.reduceLE, Int.reduceEq, if_true, if_false, Bool.or_false, Bool.or_true, Bool.false_eq_true, Bool.not_true, Bool.not_false, Bool.true_and, Bool.and_true, decide_eq_true_eq, n10, ne_eq, not_false_eq_true, and_self, retH]), e]
/-- _law_great -/
theorem gt_1 (k n B : Nat) (h : Hs) (hs : Sto n B h) (hB : B + 3 ≤ 2 ^ 60) : ∃ z h', callF pg (k + 3) 161 [.ref n] h = .ok (.int z) h' ∧ z.natAbs < N40 ∧ Sto n (B + 3) h' := by
  rw [callS (k := k + 2) (d := ⟨1, 4, ir161⟩) rfl rfl]
  have T := tkC k n
  have d1 : (mkC pg (callF pg (k + 2))).dfl 294 0 = [] := rfl
  generalize mkC pg (callF pg (k + 2)) = C at T d1 ⊢
  obtain ⟨z, h1, e, z0, z1, s1⟩ := T B 12 h hs (by omega) (small190 (by decide))
  show ∃ z h', (execs C ir161 [.val (.ref n), .non, .non, .non] >>= fin) h = _ ∧ _
  have e1 : exec C (.set 1 (.call 294 0 [(.v 0), (.c (.int 12))])) [.val (.ref n), .non, .non, .non] h = .ok (.nx, [.val (.ref n), .val (.int z), .non, .non]) h1 := by
    refine ex_setH (d := .int z) ?_ ss1
    simp only [execs_nil, execs_cons, nxt_nx, nxt_ret, fin_nx, fin_ret, exec, ev, evs, evL_L, ret_bd, pur_bd, fai_bd, thr_bd, pur_ret, opS, opN, bd_bd, ite_bd, opIf, gs0, gs1, gs2, gs3, gs4, gs5, gs6, gs7, gs8, gs9, gs10, ss0, ss1, ss2, ss3, ss4, ss5, ss6, ss7, ss8, ss9, ss10, setTg, setTgs, Option.bind_some, Option.map_some, Option.map_none, truth, truthD, cmpD, cmpP, eqD, binP, isiM, isiAny, isiD, b1M, b1P, b2P, ixM, ixP, mkC_call, mkC_dfl, mkC_glo, mkC_sup, List.map, List.replicate, List.cons_append, List.nil_append, List.append_nil, Nat.reduceSub, List.reduceReplicate, Int.reduceLT, Int.reduceLE, Int.reduceEq, if_true, if_false, Bool.or_false, Bool.or_true, Bool.false_eq_true, Bool.not_true, Bool.not_false, Bool.true_and, Bool.and_true, decide_eq_true_eq, d1, e]
  have nb := N40_big
  by_cases h5 : z < 4
  · have key : ∃ x : Int, x.natAbs < N40 ∧ getD [D.int ((N40 : Int) - 1), D.int (1 - (N40 : Int)), D.int P18, D.int 0] z = some (.int x) := by
      have : z = 0 ∨ z = 1 ∨ z = 2 ∨ z = 3 := by omega
      rcases this with rfl | rfl | rfl | rfl
      · exact ⟨(N40 : Int) - 1, by omega, rfl⟩
      · exact ⟨1 - (N40 : Int), by omega, rfl⟩
      · exact ⟨P18, Nat.lt_trans (show P18.natAbs < 10 ^ 20 by unfold P18; decide +kernel) nb, rfl⟩
      · exact ⟨0, by show 0 < N40; omega, rfl⟩
    obtain ⟨x, hx, g⟩ := key
    refine ⟨x, h1, finR (ρ' := [.val (.ref n), .val (.int z), .non, .non]) ?_, hx, s1.mono (by omega)⟩
    unfold ir161
    rw [seqH_nx e1]
    refine seqH_ret ?_
    rw [exH_t (h' := h1) (by simp only [execs_nil, execs_cons, nxt_nx, nxt_ret, fin_nx, fin_ret, exec, ev, evs, evL_L, ret_bd, pur_bd, fai_bd, thr_bd, pur_ret, opS, opN, bd_bd, ite_bd, opIf, gs0, gs1, gs2, gs3, gs4, gs5, gs6, gs7, gs8, gs9, gs10, ss0, ss1, ss2, ss3, ss4, ss5, ss6, ss7, ss8, ss9, ss10, setTg, setTgs, Option.bind_some, Option.map_some, Option.map_none, truth, truthD, cmpD, cmpP, eqD, binP, isiM, isiAny, isiD, b1M, b1P, b2P, ixM, ixP, mkC_call, mkC_dfl, mkC_glo, mkC_sup, List.map, List.replicate, List.cons_append, List.nil_append, List.append_nil, Nat.reduceSub, List.reduceReplicate, Int.reduceLT, Int.reduceLE, Int.reduceEq, if_true, if_false, Bool.or_false, Bool.or_true, Bool.false_eq_true, Bool.not_true, Bool.not_false, Bool.true_and, Bool.and_true, decide_eq_true_eq, h5, decide_true, retH])]
    refine seqH_ret (ex_retH ?_)
    have l5 : (4 : Nat) ≤ line := by rw [hline]; decide
    simp only [execs_nil, execs_cons, nxt_nx, nxt_ret, fin_nx, fin_ret, exec, ev, evs, evL_L, ret_bd, pur_bd, fai_bd, thr_bd, pur_ret, opS, opN, bd_bd, ite_bd, opIf, gs0, gs1, gs2, gs3, gs4, gs5, gs6, gs7, gs8, gs9, gs10, ss0, ss1, ss2, ss3, ss4, ss5, ss6, ss7, ss8, ss9, ss10, setTg, setTgs, Option.bind_some, Option.map_some, Option.map_none, truth, truthD, cmpD, cmpP, eqD, binP, isiM, isiAny, isiD, b1M, b1P, b2P, ixM, ixP, mkC_call, mkC_dfl, mkC_glo, mkC_sup, List.map, List.replicate, List.cons_append, List.nil_append, List.append_nil, Nat.reduceSub, List.reduceReplicate, Int.reduceLT, Int.reduceLE, Int.reduceEq, if_true, if_false, Bool.or_false, Bool.or_true, Bool.false_eq_true, Bool.not_true, Bool.not_false, Bool.true_and, Bool.and_true, decide_eq_true_eq, c40, c18, and_self, e40, e18, List.length_cons, List.length_nil, Nat.zero_add, Nat.reduceAdd, l5]
    rw [g]
    rfl
  · have hN : (N40 : Int).natAbs < 2 ^ 190 := by rw [Int.natAbs_natCast]; exact N40_lt
    obtain ⟨y, h2, e2, y0, y1, s2⟩ := T (B + 1) N40 h1 s1 (by omega) hN
    obtain ⟨u, h3, e3, u0, u1, s3⟩ := T (B + 2) 40 h2 s2 (by omega) (small190 (by decide))
    obtain ⟨v', y', a1, a2, e4⟩ := gr_loop (C := C) (w := .val (.ref n)) (x := .val (.int z)) (h := h3) (rngD 0 u) y .non y0
    have eF : exec C (.fr (.n 3) (.Ir1 (.call 294 0 [(.v 0), (.c (.int 40))])) [.set 2 (.bin .FloorDiv (.v 2) (.c (.int 10)))]) [.val (.ref n), .val (.int z), .val (.int y), .non] h2 = .ok (.nx, [.val (.ref n), .val (.int z), .val (.int v'), y']) h3 := by
      refine ex_frH (h1 := h3) ?_ e4
      have ru : rngOk u = true := by
        obtain ⟨j, rfl⟩ := Int.eq_ofNat_of_zero_le u0
        exact rng_small (by omega)
      rw [evI]
      have ec : ev C (.call 294 0 [(.v 0), (.c (.int 40))]) [.val (.ref n), .val (.int z), .val (.int y), .non] h2 = .ok (.int u) h3 := by simp only [execs_nil, execs_cons, nxt_nx, nxt_ret, fin_nx, fin_ret, exec, ev, evs, evL_L, ret_bd, pur_bd, fai_bd, thr_bd, pur_ret, opS, opN, bd_bd, ite_bd, opIf, gs0, gs1, gs2, gs3, gs4, gs5, gs6, gs7, gs8, gs9, gs10, ss0, ss1, ss2, ss3, ss4, ss5, ss6, ss7, ss8, ss9, ss10, setTg, setTgs, Option.bind_some, Option.map_some, Option.map_none, truth, truthD, cmpD, cmpP, eqD, binP, isiM, isiAny, isiD, b1M, b1P, b2P, ixM, ixP, mkC_call, mkC_dfl, mkC_glo, mkC_sup, List.map, List.replicate, List.cons_append, List.nil_append, List.append_nil, Nat.reduceSub, List.reduceReplicate, Int.reduceLT, Int.reduceLE, Int.reduceEq, if_true, if_false, Bool.or_false, Bool.or_true, Bool.false_eq_true, Bool.not_true, Bool.not_false, Bool.true_and, Bool.and_true, decide_eq_true_eq, d1, e3]
      rw [bndH ec]
      show (if rngOk u = true then pure _ else _ : M (List D)) h3 = _
      rw [if_pos ru]
      rfl
    have e2' : exec C (.set 2 (.call 294 0 [(.v 0), (.bin .Pow (.c (.int 10)) (.c (.int 40)))])) [.val (.ref n), .val (.int z), .non, .non] h1 = .ok (.nx, [.val (.ref n), .val (.int z), .val (.int y), .non]) h2 := by
      refine ex_setH (d := .int y) ?_ ss2
      simp only [execs_nil, execs_cons, nxt_nx, nxt_ret, fin_nx, fin_ret, exec, ev, evs, evL_L, ret_bd, pur_bd, fai_bd, thr_bd, pur_ret, opS, opN, bd_bd, ite_bd, opIf, gs0, gs1, gs2, gs3, gs4, gs5, gs6, gs7, gs8, gs9, gs10, ss0, ss1, ss2, ss3, ss4, ss5, ss6, ss7, ss8, ss9, ss10, setTg, setTgs, Option.bind_some, Option.map_some, Option.map_none, truth, truthD, cmpD, cmpP, eqD, binP, isiM, isiAny, isiD, b1M, b1P, b2P, ixM, ixP, mkC_call, mkC_dfl, mkC_glo, mkC_sup, List.map, List.replicate, List.cons_append, List.nil_append, List.append_nil, Nat.reduceSub, List.reduceReplicate, Int.reduceLT, Int.reduceLE, Int.reduceEq, if_true, if_false, Bool.or_false, Bool.or_true, Bool.false_eq_true, Bool.not_true, Bool.not_false, Bool.true_and, Bool.and_true, decide_eq_true_eq, c40, and_self, e40, d1, e2]
    have yN : y < N40 := by omega
    have n2 : (2 : Int) ≠ 0 := by decide
    have pre : ∀ r, execs C [.iff (.cmp .Eq (.bin .Mod (.v 1) (.c (.int 2))) (.c (.int 1))) [.ret (.neg (.v 2))] [], .ret (.v 2)] [.val (.ref n), .val (.int z), .val (.int v'), y'] h3 = r →
        execs C ir161 [.val (.ref n), .non, .non, .non] h = r := fun r er => by
      unfold ir161
      rw [seqH_nx e1, seqH_nx (ρ' := [.val (.ref n), .val (.int z), .non, .non]) (h' := h1) (by rw [exH_f (h' := h1) (by simp only [execs_nil, execs_cons, nxt_nx, nxt_ret, fin_nx, fin_ret, exec, ev, evs, evL_L, ret_bd, pur_bd, fai_bd, thr_bd, pur_ret, opS, opN, bd_bd, ite_bd, opIf, gs0, gs1, gs2, gs3, gs4, gs5, gs6, gs7, gs8, gs9, gs10, ss0, ss1, ss2, ss3, ss4, ss5, ss6, ss7, ss8, ss9, ss10, setTg, setTgs, Option.bind_some, Option.map_some, Option.map_none, truth, truthD, cmpD, cmpP, eqD, binP, isiM, isiAny, isiD, b1M, b1P, b2P, ixM, ixP, mkC_call, mkC_dfl, mkC_glo, mkC_sup, List.map, List.replicate, List.cons_append, List.nil_append, List.append_nil, Nat.reduceSub, List.reduceReplicate, Int.reduceLT, Int.reduceLE, Int.reduceEq, if_true, if_false, Bool.or_false, Bool.or_true, Bool.false_eq_true, Bool.not_true, Bool.not_false, Bool.true_and, Bool.and_true, decide_eq_true_eq, h5, decide_false, retH]), execs_nil, retH]), seqH_nx e2', seqH_nx eF]
      exact er
    by_cases od : z.fmod 2 = 1
    · refine ⟨-v', h3, finR (ρ' := [.val (.ref n), .val (.int z), .val (.int v'), y']) (pre _ (seqH_ret ?_)), by omega, s3⟩
      rw [exH_t (h' := h3) (by simp only [execs_nil, execs_cons, nxt_nx, nxt_ret, fin_nx, fin_ret, exec, ev, evs, evL_L, ret_bd, pur_bd, fai_bd, thr_bd, pur_ret, opS, opN, bd_bd, ite_bd, opIf, gs0, gs1, gs2, gs3, gs4, gs5, gs6, gs7, gs8, gs9, gs10, ss0, ss1, ss2, ss3, ss4, ss5, ss6, ss7, ss8, ss9, ss10, setTg, setTgs, Option.bind_some, Option.map_some, Option.map_none, truth, truthD, cmpD, cmpP, eqD, binP, isiM, isiAny, isiD, b1M, b1P, b2P, ixM, ixP, mkC_call, mkC_dfl, mkC_glo, mkC_sup, List.map, List.replicate, List.cons_append, List.nil_append, List.append_nil, Nat.reduceSub, List.reduceReplicate, Int.reduceLT, Int.reduceLE, Int.reduceEq, if_true, if_false, Bool.or_false, Bool.or_true, Bool.false_eq_true, Bool.not_true, Bool.not_false, Bool.true_and, Bool.and_true, decide_eq_true_eq, n2, ne_eq, not_false_eq_true, od, decide_true, retH])]
      exact seqH_ret (ex_retH (by simp only [execs_nil, execs_cons, nxt_nx, nxt_ret, fin_nx, fin_ret, exec, ev, evs, evL_L, ret_bd, pur_bd, fai_bd, thr_bd, pur_ret, opS, opN, bd_bd, ite_bd, opIf, gs0, gs1, gs2, gs3, gs4, gs5, gs6, gs7, gs8, gs9, gs10, ss0, ss1, ss2, ss3, ss4, ss5, ss6, ss7, ss8, ss9, ss10, setTg, setTgs, Option.bind_some, Option.map_some, Option.map_none, truth, truthD, cmpD, cmpP, eqD, binP, isiM, isiAny, isiD, b1M, b1P, b2P, ixM, ixP, mkC_call, mkC_dfl, mkC_glo, mkC_sup, List.map, List.replicate, List.cons_append, List.nil_append, List.append_nil, Nat.reduceSub, List.reduceReplicate, Int.reduceLT, Int.reduceLE, Int.reduceEq, if_true, if_false, Bool.or_false, Bool.or_true, Bool.false_eq_true, Bool.not_true, Bool.not_false, Bool.true_and, Bool.and_true, decide_eq_true_eq, retH]))
    · refine ⟨v', h3, finR (ρ' := [.val (.ref n), .val (.int z), .val (.int v'), y']) (pre _ ?_), by omega, s3⟩
      rw [seqH_nx (ρ' := [.val (.ref n), .val (.int z), .val (.int v'), y']) (h' := h3) (by rw [exH_f (h' := h3) (by simp only [execs_nil, execs_cons, nxt_nx, nxt_ret, fin_nx, fin_ret, exec, ev, evs, evL_L, ret_bd, pur_bd, fai_bd, thr_bd, pur_ret, opS, opN, bd_bd, ite_bd, opIf, gs0, gs1, gs2, gs3, gs4, gs5, gs6, gs7, gs8, gs9, gs10, ss0, ss1, ss2, ss3, ss4, ss5, ss6, ss7, ss8, ss9, ss10, setTg, setTgs, Option.bind_some, Option.map_some, Option.map_none, truth, truthD, cmpD, cmpP, eqD, binP, isiM, isiAny, isiD, b1M, b1P, b2P, ixM, ixP, mkC_call, mkC_dfl, mkC_glo, mkC_sup, List.map, List.replicate, List.cons_append, List.nil_append, List.append_nil, Nat.reduceSub, List.reduceReplicate, Int.reduceLT, Int.reduceLE, Int.reduceEq, if_true, if_false, Bool.or_false, Bool.or_true, Bool.false_eq_true, Bool.not_true, Bool.not_false, Bool.true_and, Bool.and_true, decide_eq_true_eq, n2, ne_eq, not_false_eq_true, od, decide_false, retH]), execs_nil, retH])]
      exact seqH_ret (ex_retH (by simp only [execs_nil, execs_cons, nxt_nx, nxt_ret, fin_nx, fin_ret, exec, ev, evs, evL_L, ret_bd, pur_bd, fai_bd, thr_bd, pur_ret, opS, opN, bd_bd, ite_bd, opIf, gs0, gs1, gs2, gs3, gs4, gs5, gs6, gs7, gs8, gs9, gs10, ss0, ss1, ss2, ss3, ss4, ss5, ss6, ss7, ss8, ss9, ss10, setTg, setTgs, Option.bind_some, Option.map_some, Option.map_none, truth, truthD, cmpD, cmpP, eqD, binP, isiM, isiAny, isiD, b1M, b1P, b2P, ixM, ixP, mkC_call, mkC_dfl, mkC_glo, mkC_sup, List.map, List.replicate, List.cons_append, List.nil_append, List.append_nil, Nat.reduceSub, List.reduceReplicate, Int.reduceLT, Int.reduceLE, Int.reduceEq, if_true, if_false, Bool.or_false, Bool.or_true, Bool.false_eq_true, Bool.not_true, Bool.not_false, Bool.true_and, Bool.and_true, decide_eq_true_eq, retH]))
end PL.k71
end
section
set_option Elab.async false
set_option linter.all false
set_option maxRecDepth 100000
/-! K71C9: fractions and words drawn. -/
namespace PL.k71
open PySem PL
open SX _root_.TL
def FrD (d : D) : Prop := ∃ a b, d = fr a b ∧ isF a b = true ∧ a.natAbs < N40 ∧ b.natAbs < N40
theorem low_FrD {x d : Int} (h : 1 ≤ d) (hx : x.natAbs < N40) (hd : d.natAbs < N40) : FrD (lowL x d) := by
  obtain ⟨a, b, e, f, l1, l2⟩ := low_is (x := x) h
  exact ⟨a, b, e, f, by omega, by omega⟩
theorem gcd_lt {n d : Int} (h1 : 1 ≤ d) (h2 : d.natAbs < N40) : (Int.gcd n d).log2 < 9000 := by
  obtain ⟨j, rfl⟩ := Int.eq_ofNat_of_zero_le (show 0 ≤ d by omega)
  exact gcd_log (by omega) (Nat.lt_trans (by omega) N40_8000)
/-- _law_frac -/
theorem fr_1 (k n B : Nat) (h : Hs) (hs : Sto n B h) (hB : B + 3 ≤ 2 ^ 60) : ∃ d h', callF pg (k + 3) 153 [.ref n] h = .ok d h' ∧ FrD d ∧ Sto n (B + 3) h' := by
  rw [callS (k := k + 2) (d := ⟨1, 3, ir153⟩) rfl rfl]
  have T := tkC k n
  have d1 : (mkC pg (callF pg (k + 2))).dfl 294 0 = [] := rfl
  have d2 : (mkC pg (callF pg (k + 2))).dfl 191 0 = [] := rfl
  have hl : ∀ (x d : Int), (Int.gcd x d).log2 < 9000 → (mkC pg (callF pg (k + 2))).call 191 [.int x, .int d] = M.ret (lowL x d) := fun x d hh => ll1 k x d hh
  generalize mkC pg (callF pg (k + 2)) = C at T d1 d2 hl ⊢
  obtain ⟨z, h1, e, z0, z1, s1⟩ := T B 12 h hs (by omega) (small190 (by decide))
  show ∃ z h', (execs C ir153 [.val (.ref n), .non, .non] >>= fin) h = _ ∧ _
  have e1 : exec C (.set 1 (.call 294 0 [(.v 0), (.c (.int 12))])) [.val (.ref n), .non, .non] h = .ok (.nx, [.val (.ref n), .val (.int z), .non]) h1 := by
    refine ex_setH (d := .int z) ?_ ss1
    simp only [execs_nil, execs_cons, nxt_nx, nxt_ret, fin_nx, fin_ret, exec, ev, evs, evL_L, ret_bd, pur_bd, fai_bd, thr_bd, pur_ret, opS, opN, bd_bd, ite_bd, opIf, gs0, gs1, gs2, gs3, gs4, gs5, gs6, gs7, gs8, gs9, gs10, ss0, ss1, ss2, ss3, ss4, ss5, ss6, ss7, ss8, ss9, ss10, setTg, setTgs, Option.bind_some, Option.map_some, Option.map_none, truth, truthD, cmpD, cmpP, eqD, binP, isiM, isiAny, isiD, b1M, b1P, b2P, ixM, ixP, mkC_call, mkC_dfl, mkC_glo, mkC_sup, List.map, List.replicate, List.cons_append, List.nil_append, List.append_nil, Nat.reduceSub, List.reduceReplicate, Int.reduceLT, Int.reduceLE, Int.reduceEq, if_true, if_false, Bool.or_false, Bool.or_true, Bool.false_eq_true, Bool.not_true, Bool.not_false, Bool.true_and, Bool.and_true, decide_eq_true_eq, d1, e]
  have nb := N40_big
  by_cases h5 : z < 5
  · have key : ∃ x : D, FrD x ∧ getD [fr 0 1, fr 1 1, fr (-1) 1, fr 1 2, fr (-1) 2] z = some x := by
      have : z = 0 ∨ z = 1 ∨ z = 2 ∨ z = 3 ∨ z = 4 := by omega
      rcases this with rfl | rfl | rfl | rfl | rfl
      · exact ⟨_, ⟨0, 1, rfl, by decide, by omega, by omega⟩, rfl⟩
      · exact ⟨_, ⟨1, 1, rfl, by decide, by omega, by omega⟩, rfl⟩
      · exact ⟨_, ⟨-1, 1, rfl, by decide, by omega, by omega⟩, rfl⟩
      · exact ⟨_, ⟨1, 2, rfl, by decide, by omega, by omega⟩, rfl⟩
      · exact ⟨_, ⟨-1, 2, rfl, by decide, by omega, by omega⟩, rfl⟩
    obtain ⟨x, hx, g⟩ := key
    refine ⟨x, h1, finR (ρ' := [.val (.ref n), .val (.int z), .non]) ?_, hx, s1.mono (by omega)⟩
    unfold ir153
    rw [seqH_nx e1]
    refine seqH_ret ?_
    rw [exH_t (h' := h1) (by simp only [execs_nil, execs_cons, nxt_nx, nxt_ret, fin_nx, fin_ret, exec, ev, evs, evL_L, ret_bd, pur_bd, fai_bd, thr_bd, pur_ret, opS, opN, bd_bd, ite_bd, opIf, gs0, gs1, gs2, gs3, gs4, gs5, gs6, gs7, gs8, gs9, gs10, ss0, ss1, ss2, ss3, ss4, ss5, ss6, ss7, ss8, ss9, ss10, setTg, setTgs, Option.bind_some, Option.map_some, Option.map_none, truth, truthD, cmpD, cmpP, eqD, binP, isiM, isiAny, isiD, b1M, b1P, b2P, ixM, ixP, mkC_call, mkC_dfl, mkC_glo, mkC_sup, List.map, List.replicate, List.cons_append, List.nil_append, List.append_nil, Nat.reduceSub, List.reduceReplicate, Int.reduceLT, Int.reduceLE, Int.reduceEq, if_true, if_false, Bool.or_false, Bool.or_true, Bool.false_eq_true, Bool.not_true, Bool.not_false, Bool.true_and, Bool.and_true, decide_eq_true_eq, h5, decide_true, retH])]
    refine seqH_ret (ex_retH ?_)
    have l2 : (2 : Nat) ≤ line := by rw [hline]; decide
    have l5 : (5 : Nat) ≤ line := by rw [hline]; decide
    simp only [execs_nil, execs_cons, nxt_nx, nxt_ret, fin_nx, fin_ret, exec, ev, evs, evL_L, ret_bd, pur_bd, fai_bd, thr_bd, pur_ret, opS, opN, bd_bd, ite_bd, opIf, gs0, gs1, gs2, gs3, gs4, gs5, gs6, gs7, gs8, gs9, gs10, ss0, ss1, ss2, ss3, ss4, ss5, ss6, ss7, ss8, ss9, ss10, setTg, setTgs, Option.bind_some, Option.map_some, Option.map_none, truth, truthD, cmpD, cmpP, eqD, binP, isiM, isiAny, isiD, b1M, b1P, b2P, ixM, ixP, mkC_call, mkC_dfl, mkC_glo, mkC_sup, List.map, List.replicate, List.cons_append, List.nil_append, List.append_nil, Nat.reduceSub, List.reduceReplicate, Int.reduceLT, Int.reduceLE, Int.reduceEq, if_true, if_false, Bool.or_false, Bool.or_true, Bool.false_eq_true, Bool.not_true, Bool.not_false, Bool.true_and, Bool.and_true, decide_eq_true_eq, List.length_cons, List.length_nil, Nat.zero_add, Nat.reduceAdd, l2, l5]
    rw [g]
    rfl
  · obtain ⟨u, h2, e2, u0, u1, s2⟩ := T (B + 1) 12 h1 s1 (by omega) (small190 (by decide))
    have ub : u < 12 := by omega
    have hb : (8 * (1 + u) + 1).natAbs < 2 ^ 100 := Nat.lt_of_le_of_lt (show _ ≤ 200 by omega) (by decide +kernel)
    obtain ⟨y, h3, e3, y0, y1, s3⟩ := T (B + 2) (8 * (1 + u) + 1) h2 s2 (by omega) (small190 hb)
    have g := hl (y - 4 * (1 + u)) (1 + u) (gcd_lt (by omega) (by omega))
    refine ⟨lowL (y - 4 * (1 + u)) (1 + u), h3, finR (ρ' := [.val (.ref n), .val (.int z), .val (.int (1 + u))]) ?_, low_FrD (by omega) (by omega) (by omega), s3⟩
    unfold ir153
    have m1 : mulOk 8 (1 + u) = true := mk_of (pC (by decide)) (p31 ⟨by omega, by omega⟩)
    have m2 : mulOk 4 (1 + u) = true := mk_of (pC (by decide)) (p31 ⟨by omega, by omega⟩)
    have e2' : exec C (.set 2 (.bin .Add (.c (.int 1)) (.call 294 0 [(.v 0), (.c (.int 12))]))) [.val (.ref n), .val (.int z), .non] h1 = .ok (.nx, [.val (.ref n), .val (.int z), .val (.int (1 + u))]) h2 := by
      refine ex_setH (d := .int (1 + u)) ?_ ss2
      simp only [execs_nil, execs_cons, nxt_nx, nxt_ret, fin_nx, fin_ret, exec, ev, evs, evL_L, ret_bd, pur_bd, fai_bd, thr_bd, pur_ret, opS, opN, bd_bd, ite_bd, opIf, gs0, gs1, gs2, gs3, gs4, gs5, gs6, gs7, gs8, gs9, gs10, ss0, ss1, ss2, ss3, ss4, ss5, ss6, ss7, ss8, ss9, ss10, setTg, setTgs, Option.bind_some, Option.map_some, Option.map_none, truth, truthD, cmpD, cmpP, eqD, binP, isiM, isiAny, isiD, b1M, b1P, b2P, ixM, ixP, mkC_call, mkC_dfl, mkC_glo, mkC_sup, List.map, List.replicate, List.cons_append, List.nil_append, List.append_nil, Nat.reduceSub, List.reduceReplicate, Int.reduceLT, Int.reduceLE, Int.reduceEq, if_true, if_false, Bool.or_false, Bool.or_true, Bool.false_eq_true, Bool.not_true, Bool.not_false, Bool.true_and, Bool.and_true, decide_eq_true_eq, d1, bndH e2, retH]
    rw [seqH_nx e1, seqH_nx (ρ' := [.val (.ref n), .val (.int z), .non]) (h' := h1) (by rw [exH_f (h' := h1) (by simp only [execs_nil, execs_cons, nxt_nx, nxt_ret, fin_nx, fin_ret, exec, ev, evs, evL_L, ret_bd, pur_bd, fai_bd, thr_bd, pur_ret, opS, opN, bd_bd, ite_bd, opIf, gs0, gs1, gs2, gs3, gs4, gs5, gs6, gs7, gs8, gs9, gs10, ss0, ss1, ss2, ss3, ss4, ss5, ss6, ss7, ss8, ss9, ss10, setTg, setTgs, Option.bind_some, Option.map_some, Option.map_none, truth, truthD, cmpD, cmpP, eqD, binP, isiM, isiAny, isiD, b1M, b1P, b2P, ixM, ixP, mkC_call, mkC_dfl, mkC_glo, mkC_sup, List.map, List.replicate, List.cons_append, List.nil_append, List.append_nil, Nat.reduceSub, List.reduceReplicate, Int.reduceLT, Int.reduceLE, Int.reduceEq, if_true, if_false, Bool.or_false, Bool.or_true, Bool.false_eq_true, Bool.not_true, Bool.not_false, Bool.true_and, Bool.and_true, decide_eq_true_eq, h5, decide_false, retH]), execs_nil, retH]), seqH_nx e2']
    refine seqH_ret (ex_retH ?_)
    simp only [execs_nil, execs_cons, nxt_nx, nxt_ret, fin_nx, fin_ret, exec, ev, evs, evL_L, ret_bd, pur_bd, fai_bd, thr_bd, pur_ret, opS, opN, bd_bd, ite_bd, opIf, gs0, gs1, gs2, gs3, gs4, gs5, gs6, gs7, gs8, gs9, gs10, ss0, ss1, ss2, ss3, ss4, ss5, ss6, ss7, ss8, ss9, ss10, setTg, setTgs, Option.bind_some, Option.map_some, Option.map_none, truth, truthD, cmpD, cmpP, eqD, binP, isiM, isiAny, isiD, b1M, b1P, b2P, ixM, ixP, mkC_call, mkC_dfl, mkC_glo, mkC_sup, List.map, List.replicate, List.cons_append, List.nil_append, List.append_nil, Nat.reduceSub, List.reduceReplicate, Int.reduceLT, Int.reduceLE, Int.reduceEq, if_true, if_false, Bool.or_false, Bool.or_true, Bool.false_eq_true, Bool.not_true, Bool.not_false, Bool.true_and, Bool.and_true, decide_eq_true_eq, d1, d2, m1, m2, bndH e3, g, retH]
theorem imax {x : Int} : (if (x.natAbs : Int) > 1 then (x.natAbs : Int) else 1) = max (1 : Int) (x.natAbs : Int) := by
  split <;> omega
/-- _law_frac_wide -/
theorem fw_1 (k n B : Nat) (h : Hs) (hs : Sto n B h) (hB : B + 7 ≤ 2 ^ 60) : ∃ d h', callF pg (k + 4) 154 [.ref n] h = .ok d h' ∧ FrD d ∧ Sto n (B + 7) h' := by
  rw [callS (k := k + 3) (d := ⟨1, 2, ir154⟩) rfl rfl]
  have T : TkC (mkC pg (callF pg (k + 3))) n := tkC (k + 1) n
  have d1 : (mkC pg (callF pg (k + 3))).dfl 294 0 = [] := rfl
  have d2 : (mkC pg (callF pg (k + 3))).dfl 191 0 = [] := rfl
  have d3 : (mkC pg (callF pg (k + 3))).dfl 161 0 = [] := rfl
  have d4 : (mkC pg (callF pg (k + 3))).dfl 315 0 = [] := rfl
  have d5 : (mkC pg (callF pg (k + 3))).dfl 153 0 = [] := rfl
  have hl : ∀ (x d : Int), (Int.gcd x d).log2 < 9000 → (mkC pg (callF pg (k + 3))).call 191 [.int x, .int d] = M.ret (lowL x d) := fun x d hh => ll1 (k + 1) x d hh
  have hg : ∀ B h, Sto n B h → B + 3 ≤ 2 ^ 60 → ∃ z h', (mkC pg (callF pg (k + 3))).call 161 [.ref n] h = .ok (.int z) h' ∧ z.natAbs < N40 ∧ Sto n (B + 3) h' := fun B h a b => gt_1 k n B h a b
  have hw : ∀ B h, Sto n B h → B + 2 ≤ 2 ^ 60 → ∃ z h', (mkC pg (callF pg (k + 3))).call 315 [.ref n, .int 1000000] h = .ok (.int z) h' ∧ z.natAbs ≤ 1000000 ∧ Sto n (B + 2) h' := fun B h a b => wh1 k n B h a b
  have hf : ∀ B h, Sto n B h → B + 3 ≤ 2 ^ 60 → ∃ d h', (mkC pg (callF pg (k + 3))).call 153 [.ref n] h = .ok d h' ∧ FrD d ∧ Sto n (B + 3) h' := fun B h a b => fr_1 k n B h a b
  generalize mkC pg (callF pg (k + 3)) = C at T d1 d2 d3 d4 d5 hl hg hw hf ⊢
  obtain ⟨z, h1, e, z0, z1, s1⟩ := T B 8 h hs (by omega) (small190 (by decide))
  show ∃ z h', (execs C ir154 [.val (.ref n), .non] >>= fin) h = _ ∧ _
  have nb := N40_big
  have e1 : exec C (.set 1 (.call 294 0 [(.v 0), (.c (.int 8))])) [.val (.ref n), .non] h = .ok (.nx, [.val (.ref n), .val (.int z)]) h1 := by
    refine ex_setH (d := .int z) ?_ ss1
    simp only [execs_nil, execs_cons, nxt_nx, nxt_ret, fin_nx, fin_ret, exec, ev, evs, evL_L, ret_bd, pur_bd, fai_bd, thr_bd, pur_ret, opS, opN, bd_bd, ite_bd, opIf, gs0, gs1, gs2, gs3, gs4, gs5, gs6, gs7, gs8, gs9, gs10, ss0, ss1, ss2, ss3, ss4, ss5, ss6, ss7, ss8, ss9, ss10, setTg, setTgs, Option.bind_some, Option.map_some, Option.map_none, truth, truthD, cmpD, cmpP, eqD, binP, isiM, isiAny, isiD, b1M, b1P, b2P, ixM, ixP, mkC_call, mkC_dfl, mkC_glo, mkC_sup, List.map, List.replicate, List.cons_append, List.nil_append, List.append_nil, Nat.reduceSub, List.reduceReplicate, Int.reduceLT, Int.reduceLE, Int.reduceEq, if_true, if_false, Bool.or_false, Bool.or_true, Bool.false_eq_true, Bool.not_true, Bool.not_false, Bool.true_and, Bool.and_true, decide_eq_true_eq, d1, e]
  by_cases c0 : z = 0
  · obtain ⟨x, h2, e2, x1, s2⟩ := hg _ _ s1 (by omega)
    obtain ⟨y, h3, e3, y1, s3⟩ := hg _ _ s2 (by omega)
    have g := hl x (max 1 (y.natAbs : Int)) (gcd_lt (by omega) (by omega))
    refine ⟨lowL x (max 1 (y.natAbs : Int)), h3, finR (ρ' := [.val (.ref n), .val (.int z)]) ?_, low_FrD (by omega) x1 (by omega), s3.mono (by omega)⟩
    unfold ir154
    rw [seqH_nx e1]
    refine seqH_ret ?_
    rw [exH_t (h' := h1) (by simp only [execs_nil, execs_cons, nxt_nx, nxt_ret, fin_nx, fin_ret, exec, ev, evs, evL_L, ret_bd, pur_bd, fai_bd, thr_bd, pur_ret, opS, opN, bd_bd, ite_bd, opIf, gs0, gs1, gs2, gs3, gs4, gs5, gs6, gs7, gs8, gs9, gs10, ss0, ss1, ss2, ss3, ss4, ss5, ss6, ss7, ss8, ss9, ss10, setTg, setTgs, Option.bind_some, Option.map_some, Option.map_none, truth, truthD, cmpD, cmpP, eqD, binP, isiM, isiAny, isiD, b1M, b1P, b2P, ixM, ixP, mkC_call, mkC_dfl, mkC_glo, mkC_sup, List.map, List.replicate, List.cons_append, List.nil_append, List.append_nil, Nat.reduceSub, List.reduceReplicate, Int.reduceLT, Int.reduceLE, Int.reduceEq, if_true, if_false, Bool.or_false, Bool.or_true, Bool.false_eq_true, Bool.not_true, Bool.not_false, Bool.true_and, Bool.and_true, decide_eq_true_eq, c0, decide_true, retH])]
    refine seqH_ret (ex_retH ?_)
    simp only [execs_nil, execs_cons, nxt_nx, nxt_ret, fin_nx, fin_ret, exec, ev, evs, evL_L, ret_bd, pur_bd, fai_bd, thr_bd, pur_ret, opS, opN, bd_bd, ite_bd, opIf, gs0, gs1, gs2, gs3, gs4, gs5, gs6, gs7, gs8, gs9, gs10, ss0, ss1, ss2, ss3, ss4, ss5, ss6, ss7, ss8, ss9, ss10, setTg, setTgs, Option.bind_some, Option.map_some, Option.map_none, truth, truthD, cmpD, cmpP, eqD, binP, isiM, isiAny, isiD, b1M, b1P, b2P, ixM, ixP, mkC_call, mkC_dfl, mkC_glo, mkC_sup, List.map, List.replicate, List.cons_append, List.nil_append, List.append_nil, Nat.reduceSub, List.reduceReplicate, Int.reduceLT, Int.reduceLE, Int.reduceEq, if_true, if_false, Bool.or_false, Bool.or_true, Bool.false_eq_true, Bool.not_true, Bool.not_false, Bool.true_and, Bool.and_true, decide_eq_true_eq, d2, d3, bndH e2, bndH e3]
    rw [imax, g]
    rfl
  · by_cases c1 : z = 1
    · obtain ⟨x, h2, e2, x1, s2⟩ := hw _ _ s1 (by omega)
      obtain ⟨y, h3, e3, y0, y1, s3⟩ := T _ 1000 _ s2 (by omega) (small190 (by decide))
      have g := hl x (1 + y) (gcd_lt (by omega) (by omega))
      refine ⟨lowL x (1 + y), h3, finR (ρ' := [.val (.ref n), .val (.int z)]) ?_, low_FrD (by omega) (by omega) (by omega), s3.mono (by omega)⟩
      unfold ir154
      rw [seqH_nx e1, seqH_nx (ρ' := [.val (.ref n), .val (.int z)]) (h' := h1) (by rw [exH_f (h' := h1) (by simp only [execs_nil, execs_cons, nxt_nx, nxt_ret, fin_nx, fin_ret, exec, ev, evs, evL_L, ret_bd, pur_bd, fai_bd, thr_bd, pur_ret, opS, opN, bd_bd, ite_bd, opIf, gs0, gs1, gs2, gs3, gs4, gs5, gs6, gs7, gs8, gs9, gs10, ss0, ss1, ss2, ss3, ss4, ss5, ss6, ss7, ss8, ss9, ss10, setTg, setTgs, Option.bind_some, Option.map_some, Option.map_none, truth, truthD, cmpD, cmpP, eqD, binP, isiM, isiAny, isiD, b1M, b1P, b2P, ixM, ixP, mkC_call, mkC_dfl, mkC_glo, mkC_sup, List.map, List.replicate, List.cons_append, List.nil_append, List.append_nil, Nat.reduceSub, List.reduceReplicate, Int.reduceLT, Int.reduceLE, Int.reduceEq, if_true, if_false, Bool.or_false, Bool.or_true, Bool.false_eq_true, Bool.not_true, Bool.not_false, Bool.true_and, Bool.and_true, decide_eq_true_eq, c0, decide_false, retH]), execs_nil, retH])]
      refine seqH_ret ?_
      rw [exH_t (h' := h1) (by simp only [execs_nil, execs_cons, nxt_nx, nxt_ret, fin_nx, fin_ret, exec, ev, evs, evL_L, ret_bd, pur_bd, fai_bd, thr_bd, pur_ret, opS, opN, bd_bd, ite_bd, opIf, gs0, gs1, gs2, gs3, gs4, gs5, gs6, gs7, gs8, gs9, gs10, ss0, ss1, ss2, ss3, ss4, ss5, ss6, ss7, ss8, ss9, ss10, setTg, setTgs, Option.bind_some, Option.map_some, Option.map_none, truth, truthD, cmpD, cmpP, eqD, binP, isiM, isiAny, isiD, b1M, b1P, b2P, ixM, ixP, mkC_call, mkC_dfl, mkC_glo, mkC_sup, List.map, List.replicate, List.cons_append, List.nil_append, List.append_nil, Nat.reduceSub, List.reduceReplicate, Int.reduceLT, Int.reduceLE, Int.reduceEq, if_true, if_false, Bool.or_false, Bool.or_true, Bool.false_eq_true, Bool.not_true, Bool.not_false, Bool.true_and, Bool.and_true, decide_eq_true_eq, c1, decide_true, retH])]
      refine seqH_ret (ex_retH ?_)
      have c6 : (0 : Int) ≤ 6 ∧ (6 : Int) ≤ 1000 ∧ (10 : Int).natAbs < 1000 := by decide
      simp only [execs_nil, execs_cons, nxt_nx, nxt_ret, fin_nx, fin_ret, exec, ev, evs, evL_L, ret_bd, pur_bd, fai_bd, thr_bd, pur_ret, opS, opN, bd_bd, ite_bd, opIf, gs0, gs1, gs2, gs3, gs4, gs5, gs6, gs7, gs8, gs9, gs10, ss0, ss1, ss2, ss3, ss4, ss5, ss6, ss7, ss8, ss9, ss10, setTg, setTgs, Option.bind_some, Option.map_some, Option.map_none, truth, truthD, cmpD, cmpP, eqD, binP, isiM, isiAny, isiD, b1M, b1P, b2P, ixM, ixP, mkC_call, mkC_dfl, mkC_glo, mkC_sup, List.map, List.replicate, List.cons_append, List.nil_append, List.append_nil, Nat.reduceSub, List.reduceReplicate, Int.reduceLT, Int.reduceLE, Int.reduceEq, if_true, if_false, Bool.or_false, Bool.or_true, Bool.false_eq_true, Bool.not_true, Bool.not_false, Bool.true_and, Bool.and_true, decide_eq_true_eq, c6, and_self, ten6, d1, d2, d4, bndH e2, bndH e3, g, retH]
    · obtain ⟨d, h2, e2, hd, s2⟩ := hf _ _ s1 (by omega)
      refine ⟨d, h2, finR (ρ' := [.val (.ref n), .val (.int z)]) ?_, hd, s2.mono (by omega)⟩
      unfold ir154
      rw [seqH_nx e1, seqH_nx (ρ' := [.val (.ref n), .val (.int z)]) (h' := h1) (by rw [exH_f (h' := h1) (by simp only [execs_nil, execs_cons, nxt_nx, nxt_ret, fin_nx, fin_ret, exec, ev, evs, evL_L, ret_bd, pur_bd, fai_bd, thr_bd, pur_ret, opS, opN, bd_bd, ite_bd, opIf, gs0, gs1, gs2, gs3, gs4, gs5, gs6, gs7, gs8, gs9, gs10, ss0, ss1, ss2, ss3, ss4, ss5, ss6, ss7, ss8, ss9, ss10, setTg, setTgs, Option.bind_some, Option.map_some, Option.map_none, truth, truthD, cmpD, cmpP, eqD, binP, isiM, isiAny, isiD, b1M, b1P, b2P, ixM, ixP, mkC_call, mkC_dfl, mkC_glo, mkC_sup, List.map, List.replicate, List.cons_append, List.nil_append, List.append_nil, Nat.reduceSub, List.reduceReplicate, Int.reduceLT, Int.reduceLE, Int.reduceEq, if_true, if_false, Bool.or_false, Bool.or_true, Bool.false_eq_true, Bool.not_true, Bool.not_false, Bool.true_and, Bool.and_true, decide_eq_true_eq, c0, decide_false, retH]), execs_nil, retH]),
        seqH_nx (ρ' := [.val (.ref n), .val (.int z)]) (h' := h1) (by rw [exH_f (h' := h1) (by simp only [execs_nil, execs_cons, nxt_nx, nxt_ret, fin_nx, fin_ret, exec, ev, evs, evL_L, ret_bd, pur_bd, fai_bd, thr_bd, pur_ret, opS, opN, bd_bd, ite_bd, opIf, gs0, gs1, gs2, gs3, gs4, gs5, gs6, gs7, gs8, gs9, gs10, ss0, ss1, ss2, ss3, ss4, ss5, ss6, ss7, ss8, ss9, ss10, setTg, setTgs, Option.bind_some, Option.map_some, Option.map_none, truth, truthD, cmpD, cmpP, eqD, binP, isiM, isiAny, isiD, b1M, b1P, b2P, ixM, ixP, mkC_call, mkC_dfl, mkC_glo, mkC_sup, List.map, List.replicate, List.cons_append, List.nil_append, List.append_nil, Nat.reduceSub, List.reduceReplicate, Int.reduceLT, Int.reduceLE, Int.reduceEq, if_true, if_false, Bool.or_false, Bool.or_true, Bool.false_eq_true, Bool.not_true, Bool.not_false, Bool.true_and, Bool.and_true, decide_eq_true_eq, c1, decide_false, retH]), execs_nil, retH])]
      refine seqH_ret (ex_retH ?_)
      simp only [execs_nil, execs_cons, nxt_nx, nxt_ret, fin_nx, fin_ret, exec, ev, evs, evL_L, ret_bd, pur_bd, fai_bd, thr_bd, pur_ret, opS, opN, bd_bd, ite_bd, opIf, gs0, gs1, gs2, gs3, gs4, gs5, gs6, gs7, gs8, gs9, gs10, ss0, ss1, ss2, ss3, ss4, ss5, ss6, ss7, ss8, ss9, ss10, setTg, setTgs, Option.bind_some, Option.map_some, Option.map_none, truth, truthD, cmpD, cmpP, eqD, binP, isiM, isiAny, isiD, b1M, b1P, b2P, ixM, ixP, mkC_call, mkC_dfl, mkC_glo, mkC_sup, List.map, List.replicate, List.cons_append, List.nil_append, List.append_nil, Nat.reduceSub, List.reduceReplicate, Int.reduceLT, Int.reduceLE, Int.reduceEq, if_true, if_false, Bool.or_false, Bool.or_true, Bool.false_eq_true, Bool.not_true, Bool.not_false, Bool.true_and, Bool.and_true, decide_eq_true_eq, d5, e2]
end PL.k71
end
section
set_option Elab.async false
set_option linter.all false
set_option maxRecDepth 100000
/-! K71D1: words drawn. -/
namespace PL.k71
open PySem PL
open SX _root_.TL
@[irreducible] def P39 : Int := 10 ^ 39
theorem e39 : ((10 : Int) ^ (39 : Int).toNat) = P39 := by unfold P39; decide +kernel
theorem c39 : (0 : Int) ≤ 39 ∧ (39 : Int) ≤ 1000 ∧ (10 : Int).natAbs < 1000 := by decide
theorem P39_N : 10 * P39 = N40 := by unfold P39; rw [N40_eq]; decide +kernel
theorem N40_bigger : N40 < big := by rw [N40_eq, big_eq]; exact Nat.pow_lt_pow_right (by decide) (by decide)
theorem fr_drop {a b m : Int} (h : isF a b = true) (hm : 1 ≤ m) : lowD (a * m) (b * m) = fr a b := by
  obtain ⟨h1, h2⟩ := isF_iff.mp h
  have g : (Int.gcd (a * m) (b * m) : Int) = m := by
    rw [Int.gcd_mul_right, h2, Nat.one_mul]
    omega
  have b1 : 1 ≤ b * m := by
    have := Int.mul_le_mul h1 hm (by decide) (by omega)
    simpa using this
  unfold lowD
  rw [if_neg (by omega), g, fd (by omega), fd (by omega), Int.mul_ediv_cancel _ (by omega), Int.mul_ediv_cancel _ (by omega)]
theorem max_ge {a b : Int} (h : 1 ≤ b) : ((if b > (a.natAbs : Int) then b else (a.natAbs : Int)) ≥ P39) ↔ ((a.natAbs : Int) ≥ P39 ∨ b ≥ P39) := by
  split <;> omega
/-- _law_loose_word -/
theorem lw_1 (k n B : Nat) (a b : Int) (hF : isF a b = true) (ha : a.natAbs < N40) (hb : b.natAbs < N40) (h : Hs) (hs : Sto n B h) (hB : B + 1 ≤ 2 ^ 60) : ∃ w h', callF pg (k + 3) 190 [.ref n, fr a b] h = .ok (.str w) h' ∧ fracD w = fr a b ∧ w.length ≤ 9000 ∧ Sto n (B + 1) h' := by
  rw [callS (k := k + 2) (d := ⟨2, 3, ir190⟩) rfl rfl]
  have T := tkC k n
  have d1 : (mkC pg (callF pg (k + 2))).dfl 294 0 = [] := rfl
  have d2 : (mkC pg (callF pg (k + 2))).dfl 155 0 = [] := rfl
  have ab := Nat.lt_trans ha N40_bigger
  have bb := Nat.lt_trans hb N40_bigger
  have hw : (mkC pg (callF pg (k + 2))).call 155 [fr a b] = M.ret (.str (wordL a b)) := fw2 (k + 1) a b ab bb
  obtain ⟨f1, f2⟩ := isF_iff.mp hF
  generalize mkC pg (callF pg (k + 2)) = C at T d1 d2 hw ⊢
  obtain ⟨z, h1, e, z0, z1, s1⟩ := T B 4 h hs (by omega) (small190 (by decide))
  show ∃ z h', (execs C ir190 [.val (.ref n), .val (fr a b), .non] >>= fin) h = _ ∧ _
  have e1 : exec C (.set 2 (.bin .Add (.c (.int 1)) (.call 294 0 [(.v 0), (.c (.int 4))]))) [.val (.ref n), .val (fr a b), .non] h = .ok (.nx, [.val (.ref n), .val (fr a b), .val (.int (1 + z))]) h1 := by
    refine ex_setH (d := .int (1 + z)) ?_ ss2
    simp only [execs_nil, execs_cons, nxt_nx, nxt_ret, fin_nx, fin_ret, exec, ev, evs, evL_L, ret_bd, pur_bd, fai_bd, thr_bd, pur_ret, opS, opN, bd_bd, ite_bd, opIf, gs0, gs1, gs2, gs3, gs4, gs5, gs6, gs7, gs8, gs9, gs10, ss0, ss1, ss2, ss3, ss4, ss5, ss6, ss7, ss8, ss9, ss10, setTg, setTgs, Option.bind_some, Option.map_some, Option.map_none, truth, truthD, cmpD, cmpP, eqD, binP, isiM, isiAny, isiD, b1M, b1P, b2P, ixM, ixP, mkC_call, mkC_dfl, mkC_glo, mkC_sup, List.map, List.replicate, List.cons_append, List.nil_append, List.append_nil, Nat.reduceSub, List.reduceReplicate, Int.reduceLT, Int.reduceLE, Int.reduceEq, if_true, if_false, Bool.or_false, Bool.or_true, Bool.false_eq_true, Bool.not_true, Bool.not_false, Bool.true_and, Bool.and_true, decide_eq_true_eq, d1, bndH e, retH]
  have test : ev C (.or_ (.cmp .Eq (.v 2) (.c (.int 1))) (.cmp .GtE (.b2 .max (.b1 .abs (.ix (.v 1) (.c (.int 0)))) (.ix (.v 1) (.c (.int 1)))) (.bin .Pow (.c (.int 10)) (.c (.int 39))))) [.val (.ref n), .val (fr a b), .val (.int (1 + z))] h1 = .ok (.bl (decide (1 + z = 1) || (decide ((a.natAbs : Int) ≥ P39) || decide (b ≥ P39)))) h1 := by
    by_cases c : 1 + z = 1
    · simp only [execs_nil, execs_cons, nxt_nx, nxt_ret, fin_nx, fin_ret, exec, ev, evs, evL_L, ret_bd, pur_bd, fai_bd, thr_bd, pur_ret, opS, opN, bd_bd, ite_bd, opIf, gs0, gs1, gs2, gs3, gs4, gs5, gs6, gs7, gs8, gs9, gs10, ss0, ss1, ss2, ss3, ss4, ss5, ss6, ss7, ss8, ss9, ss10, setTg, setTgs, Option.bind_some, Option.map_some, Option.map_none, truth, truthD, cmpD, cmpP, eqD, binP, isiM, isiAny, isiD, b1M, b1P, b2P, ixM, ixP, mkC_call, mkC_dfl, mkC_glo, mkC_sup, List.map, List.replicate, List.cons_append, List.nil_append, List.append_nil, Nat.reduceSub, List.reduceReplicate, Int.reduceLT, Int.reduceLE, Int.reduceEq, if_true, if_false, Bool.or_false, Bool.or_true, Bool.false_eq_true, Bool.not_true, Bool.not_false, Bool.true_and, Bool.and_true, decide_eq_true_eq, c, decide_true, Bool.true_or, retH]
    · simp only [execs_nil, execs_cons, nxt_nx, nxt_ret, fin_nx, fin_ret, exec, ev, evs, evL_L, ret_bd, pur_bd, fai_bd, thr_bd, pur_ret, opS, opN, bd_bd, ite_bd, opIf, gs0, gs1, gs2, gs3, gs4, gs5, gs6, gs7, gs8, gs9, gs10, ss0, ss1, ss2, ss3, ss4, ss5, ss6, ss7, ss8, ss9, ss10, setTg, setTgs, Option.bind_some, Option.map_some, Option.map_none, truth, truthD, cmpD, cmpP, eqD, binP, isiM, isiAny, isiD, b1M, b1P, b2P, ixM, ixP, mkC_call, mkC_dfl, mkC_glo, mkC_sup, List.map, List.replicate, List.cons_append, List.nil_append, List.append_nil, Nat.reduceSub, List.reduceReplicate, Int.reduceLT, Int.reduceLE, Int.reduceEq, if_true, if_false, Bool.or_false, Bool.or_true, Bool.false_eq_true, Bool.not_true, Bool.not_false, Bool.true_and, Bool.and_true, decide_eq_true_eq, c, decide_false, Bool.false_or, gt0, gt1, c39, and_self, e39, retH]
      congr 2
      have := max_ge (a := a) f1
      by_cases q : (a.natAbs : Int) ≥ P39 ∨ b ≥ P39
      · have q2 := this.mpr q
        rw [decide_eq_true q2]
        rcases q with q | q
        · rw [decide_eq_true q]; rfl
        · rw [decide_eq_true q, Bool.or_true]
      · have q2 := fun z => q (this.mp z)
        rw [decide_eq_false q2, decide_eq_false (fun z => q (.inl z)), decide_eq_false (fun z => q (.inr z))]
        rfl
  cases c : (decide (1 + z = 1) || (decide ((a.natAbs : Int) ≥ P39) || decide (b ≥ P39))) with
  | true =>
    rw [c] at test
    have bk := back hF
    rw [← N40_eq, if_pos ⟨ha, hb⟩] at bk
    refine ⟨wordL a b, h1, finR (ρ' := [.val (.ref n), .val (fr a b), .val (.int (1 + z))]) ?_, bk, by have := word_len ab bb; omega, s1⟩
    unfold ir190
    rw [seqH_nx e1]
    refine seqH_ret ?_
    rw [exH_t test]
    refine seqH_ret (ex_retH ?_)
    simp only [execs_nil, execs_cons, nxt_nx, nxt_ret, fin_nx, fin_ret, exec, ev, evs, evL_L, ret_bd, pur_bd, fai_bd, thr_bd, pur_ret, opS, opN, bd_bd, ite_bd, opIf, gs0, gs1, gs2, gs3, gs4, gs5, gs6, gs7, gs8, gs9, gs10, ss0, ss1, ss2, ss3, ss4, ss5, ss6, ss7, ss8, ss9, ss10, setTg, setTgs, Option.bind_some, Option.map_some, Option.map_none, truth, truthD, cmpD, cmpP, eqD, binP, isiM, isiAny, isiD, b1M, b1P, b2P, ixM, ixP, mkC_call, mkC_dfl, mkC_glo, mkC_sup, List.map, List.replicate, List.cons_append, List.nil_append, List.append_nil, Nat.reduceSub, List.reduceReplicate, Int.reduceLT, Int.reduceLE, Int.reduceEq, if_true, if_false, Bool.or_false, Bool.or_true, Bool.false_eq_true, Bool.not_true, Bool.not_false, Bool.true_and, Bool.and_true, decide_eq_true_eq, d2, hw, retH]
  | false =>
    rw [c] at test
    simp only [Bool.or_eq_false_iff, decide_eq_false_iff_not] at c
    obtain ⟨c1, c2, c3⟩ := c
    have PN := P39_N
    have z2 : 1 ≤ z ∧ z ≤ 3 := by omega
    have za : (a * z).natAbs < N40 := by
      rw [Int.natAbs_mul]
      have : a.natAbs * z.natAbs ≤ a.natAbs * 3 := Nat.mul_le_mul_left _ (by omega)
      omega
    have zb : (b * z).natAbs < N40 := by
      rw [Int.natAbs_mul]
      have : b.natAbs * z.natAbs ≤ b.natAbs * 3 := Nat.mul_le_mul_left _ (by omega)
      omega
    have b1 : 1 ≤ b * z := by
      have := Int.mul_le_mul f1 z2.1 (by decide) (by omega)
      simpa using this
    have abz := Nat.lt_trans za N40_bigger
    have bbz := Nat.lt_trans zb N40_bigger
    have l1 := txt_len abz
    have l2 := txt_len bbz
    refine ⟨txtI (a * z) ++ 47 :: txtI (b * z), h1, finR (ρ' := [.val (.ref n), .val (fr a b), .val (.int (1 + z))]) ?_, ?_, ?_, s1⟩
    · unfold ir190
      rw [seqH_nx e1, seqH_nx (ρ' := [.val (.ref n), .val (fr a b), .val (.int (1 + z))]) (h' := h1) (by rw [exH_f test, execs_nil, retH])]
      refine seqH_ret (ex_retH ?_)
      have m1 : mulOk a z = true := mk_of (Nat.lt_trans ha (Nat.lt_trans N40_lt (by decide +kernel))) (p31 ⟨by omega, by omega⟩)
      have m2 : mulOk b z = true := mk_of (Nat.lt_trans hb (Nat.lt_trans N40_lt (by decide +kernel))) (p31 ⟨by omega, by omega⟩)
      have e0 : 1 + z - 1 = z := by omega
      have c2 : (txtI (a * z)).length + ([47] : List Nat).length ≤ line := by rw [hline, List.length_singleton]; omega
      have c3 : (txtI (a * z) ++ [47]).length + (txtI (b * z)).length ≤ line := by rw [hline, List.length_append, List.length_singleton]; omega
      simp only [execs_nil, execs_cons, nxt_nx, nxt_ret, fin_nx, fin_ret, exec, ev, evs, evL_L, ret_bd, pur_bd, fai_bd, thr_bd, pur_ret, opS, opN, bd_bd, ite_bd, opIf, gs0, gs1, gs2, gs3, gs4, gs5, gs6, gs7, gs8, gs9, gs10, ss0, ss1, ss2, ss3, ss4, ss5, ss6, ss7, ss8, ss9, ss10, setTg, setTgs, Option.bind_some, Option.map_some, Option.map_none, truth, truthD, cmpD, cmpP, eqD, binP, isiM, isiAny, isiD, b1M, b1P, b2P, ixM, ixP, mkC_call, mkC_dfl, mkC_glo, mkC_sup, List.map, List.replicate, List.cons_append, List.nil_append, List.append_nil, Nat.reduceSub, List.reduceReplicate, Int.reduceLT, Int.reduceLE, Int.reduceEq, if_true, if_false, Bool.or_false, Bool.or_true, Bool.false_eq_true, Bool.not_true, Bool.not_false, Bool.true_and, Bool.and_true, decide_eq_true_eq, gt0, gt1, e0, m1, m2, abz, bbz, strI_eq, c2, c3, retH]
      simp
    · unfold fracD
      rw [cut_app (txt_free _)]
      dsimp only
      obtain ⟨o1, o2⟩ := txt_ok (a * z)
      rw [← N40_eq, decide_eq_true za] at o1
      rw [o1, o2, txt_pos b1, numL_ok (by omega), ← N40_eq, decide_eq_true zb, numL_v, Bool.and_self, if_pos rfl, show (((b * z).natAbs : Nat) : Int) = b * z by omega]
      exact fr_drop hF z2.1
    · rw [List.length_append, List.length_cons]; omega
end PL.k71
end
section
set_option Elab.async false
set_option linter.all false
set_option maxRecDepth 100000
/-! K71D2: rows of signs drawn. -/
namespace PL.k71
open PySem PL
open SX _root_.TL
theorem cut_le (s : List Nat) (lo hi : Option Int) : (cutD s lo hi).length ≤ s.length := by
  unfold cutD
  rw [List.length_take, List.length_drop]
  omega
theorem join_ones : ∀ cs : List Nat, joinL [] (cs.map fun c => [c]) = cs
  | [] => rfl
  | [c] => rfl
  | c :: d :: r => by
    have ih := join_ones (d :: r)
    show [c] ++ [] ++ joinL [] ((d :: r).map fun c => [c]) = _
    rw [ih]
    rfl
theorem strs_ones : ∀ cs : List Nat, strsD (cs.map fun c => D.str [c]) = some (cs.map fun c => [c])
  | [] => rfl
  | c :: r => by
    show (strsD (r.map fun c => D.str [c])).map ([c] :: ·) = _
    rw [strs_ones r]
    rfl
theorem sum_ones : ∀ cs : List Nat, ((cs.map fun c => [c]).map List.length).sum = cs.length
  | [] => rfl
  | c :: r => by
    rw [List.map_cons, List.map_cons, List.sum_cons, sum_ones r]
    show 0 + 1 + r.length = r.length + 1
    omega
theorem sm_join {cs : List Nat} (h : cs.length ≤ line) : smP .join (.str []) [.lst (cs.map fun c => D.str [c])] = some (.str cs) := by
  show ((strsD (cs.map fun c => D.str [c])).bind fun ss => if (ss.map List.length).sum + ss.length * ([] : List Nat).length ≤ line then some (D.str (un (Txt.join (st []) (ss.map st)))) else none) = _
  rw [strs_ones, Option.bind_some, sum_ones, if_pos (by simpa using h)]
  have e : Txt.join (st []) ((cs.map fun c => [c]).map st) = S (joinL [] (cs.map fun c => [c])) := join_S [] _
  rw [e, join_ones]
  rfl
/-- a comprehension that draws one sign a turn -/
theorem compL_draw {turn : D → M (Option D)} {n : Nat} (ht : ∀ x B h, Sto n B h → B + 1 ≤ 2 ^ 60 → ∃ c h', turn x h = .ok (some (.str [c])) h' ∧ Sto n (B + 1) h') : ∀ (xs : List D) (acc : List Nat) (B : Nat) (h : Hs), Sto n B h → B + xs.length ≤ 2 ^ 60 → acc.length + xs.length ≤ line →
    ∃ (cs : List Nat) (h' : Hs), compL turn (acc.map fun c => .str [c]) xs h = .ok (cs.map fun c => .str [c]) h' ∧ cs.length = acc.length + xs.length ∧ Sto n (B + xs.length) h'
  | [], acc, B, h, hs, _, _ => ⟨acc, h, by rw [compL, retH], by simp, hs⟩
  | x :: xs, acc, B, h, hs, hB, hl => by
    rw [List.length_cons] at hB hl
    obtain ⟨c, h1, e, s1⟩ := ht x B h hs (by omega)
    obtain ⟨cs, h', e2, l2, s2⟩ := compL_draw ht xs (acc ++ [c]) (B + 1) h1 s1 (by omega) (by rw [List.length_append, List.length_singleton]; omega)
    refine ⟨cs, h', ?_, by rw [l2, List.length_append, List.length_singleton, List.length_cons]; omega, by rw [List.length_cons, show B + (xs.length + 1) = B + 1 + xs.length by omega]; exact s2⟩
    rw [compL, bndH e]
    dsimp only
    rw [if_pos (by rw [List.length_map]; omega), ← e2]
    rw [List.map_append]
    rfl
theorem totH {α : Type} {m : M α} {a : α} {h h' : Hs} (e : m h = .ok a h') : M.tot m h = .ok a h' := by
  unfold M.tot
  rw [e]
/-- a sign of a row, drawn -/
theorem draw_sign {C : Cfg} {n : Nat} (T : TkC C n) (d1 : C.dfl 294 0 = []) {row : List Nat} {m : Int} (hm : m = row.length) (h2 : 2 ≤ row.length) (h3 : row.length < 100) {ρ : PL.Env} {B : Nat} {h : Hs} (hρ : getSl ρ 0 = M.ret (.ref n)) (hs : Sto n B h) (hB : B + 1 ≤ 2 ^ 60) :
    ∃ c h', ev C (.ix (.c (.str row)) (.call 294 0 [(.v 0), (.c (.int m))])) ρ h = .ok (.str [c]) h' ∧ Sto n (B + 1) h' := by
  obtain ⟨z, h', e, z0, z1, s⟩ := T B m h hs hB (small190 (by subst hm; rw [Int.natAbs_natCast]; exact Nat.lt_trans h3 (by decide +kernel)))
  obtain ⟨j, rfl⟩ := Int.eq_ofNat_of_zero_le z0
  have hj : j < row.length := by omega
  refine ⟨row[j], h', ?_, s⟩
  have l : row.length ≤ line := by rw [hline]; omega
  have g : getD row (j : Int) = some row[j] := by rw [getD_nat hj, List.getElem?_eq_getElem hj]
  simp only [execs_nil, execs_cons, nxt_nx, nxt_ret, fin_nx, fin_ret, exec, ev, evs, evL_L, ret_bd, pur_bd, fai_bd, thr_bd, pur_ret, opS, opN, bd_bd, ite_bd, opIf, gs0, gs1, gs2, gs3, gs4, gs5, gs6, gs7, gs8, gs9, gs10, ss0, ss1, ss2, ss3, ss4, ss5, ss6, ss7, ss8, ss9, ss10, setTg, setTgs, Option.bind_some, Option.map_some, Option.map_none, truth, truthD, cmpD, cmpP, eqD, binP, isiM, isiAny, isiD, b1M, b1P, b2P, ixM, ixP, mkC_call, mkC_dfl, mkC_glo, mkC_sup, List.map, List.replicate, List.cons_append, List.nil_append, List.append_nil, Nat.reduceSub, List.reduceReplicate, Int.reduceLT, Int.reduceLE, Int.reduceEq, if_true, if_false, Bool.or_false, Bool.or_true, Bool.false_eq_true, Bool.not_true, Bool.not_false, Bool.true_and, Bool.and_true, decide_eq_true_eq, hρ, d1, bndH e, l, g, retH]
def compFig : Ex := .Lc [3] (.n 3) (.Ir1 (.b2 .min (.v 1) (.c (.int 45)))) (.c (.bl true)) (.ix (.c (.str [48, 49, 50, 51, 52, 53, 54, 55, 56, 57])) (.call 294 0 [(.v 0), (.c (.int 10))]))
/-- _law_figures -/
theorem fg_1 (k n B : Nat) (m : Int) (hm : 1 ≤ m ∧ m ≤ 6000) (h : Hs) (hs : Sto n B h) (hB : B + 60 ≤ 2 ^ 60) : ∃ w h', callF pg (k + 3) 146 [.ref n, .int m] h = .ok (.str w) h' ∧ w.length ≤ 7000 ∧ Sto n (B + 60) h' := by
  rw [callS (k := k + 2) (d := ⟨2, 4, ir146⟩) rfl rfl]
  have T := tkC k n
  have d1 : (mkC pg (callF pg (k + 2))).dfl 294 0 = [] := rfl
  generalize mkC pg (callF pg (k + 2)) = C at T d1 ⊢
  show ∃ z h', (execs C ir146 [.val (.ref n), .val (.int m), .non, .non] >>= fin) h = _ ∧ _
  -- the figures drawn
  have mn : ∃ N : Nat, (if (45 : Int) < m then (45 : Int) else m) = N ∧ 1 ≤ N ∧ N ≤ 45 := by
    by_cases q : (45 : Int) < m
    · exact ⟨45, by rw [if_pos q]; rfl, by decide, by decide⟩
    · exact ⟨m.toNat, by rw [if_neg q]; omega, by omega, by omega⟩
  obtain ⟨N, hN, N1, N45⟩ := mn
  have eI : evI C (.Ir1 (.b2 .min (.v 1) (.c (.int 45)))) [.val (.ref n), .val (.int m), .non, .non] = M.ret (rngD 0 N) := by
    refine evI_r1 ?_ (rng_small (by omega))
    simp only [execs_nil, execs_cons, nxt_nx, nxt_ret, fin_nx, fin_ret, exec, ev, evs, evL_L, ret_bd, pur_bd, fai_bd, thr_bd, pur_ret, opS, opN, bd_bd, ite_bd, opIf, gs0, gs1, gs2, gs3, gs4, gs5, gs6, gs7, gs8, gs9, gs10, ss0, ss1, ss2, ss3, ss4, ss5, ss6, ss7, ss8, ss9, ss10, setTg, setTgs, Option.bind_some, Option.map_some, Option.map_none, truth, truthD, cmpD, cmpP, eqD, binP, isiM, isiAny, isiD, b1M, b1P, b2P, ixM, ixP, mkC_call, mkC_dfl, mkC_glo, mkC_sup, List.map, List.replicate, List.cons_append, List.nil_append, List.append_nil, Nat.reduceSub, List.reduceReplicate, Int.reduceLT, Int.reduceLE, Int.reduceEq, if_true, if_false, Bool.or_false, Bool.or_true, Bool.false_eq_true, Bool.not_true, Bool.not_false, Bool.true_and, Bool.and_true, decide_eq_true_eq, hN]
  have ln : (rngD 0 (N : Int)).length = N := by unfold rngD; rw [List.length_map, List.length_range]; omega
  obtain ⟨cs, h1, e1, l1, s1⟩ := compL_draw (n := n) (turn := fun x => M.tot (turnC [3] (.n 3) (ev C (.c (.bl true))) (ev C (.ix (.c (.str [48, 49, 50, 51, 52, 53, 54, 55, 56, 57])) (.call 294 0 [(.v 0), (.c (.int 10))]))) [.val (.ref n), .val (.int m), .non, .non] x))
    (fun x B h hs hB => by
      obtain ⟨c, h', e, s⟩ := draw_sign (C := C) T d1 (row := [48, 49, 50, 51, 52, 53, 54, 55, 56, 57]) (m := 10) rfl (by decide) (by decide) (ρ := [.val (.ref n), .val (.int m), .non, .val x]) gs0 hs hB
      refine ⟨c, h', totH ?_, s⟩
      have w : setTg (.n 3) x (wipeE [.val (.ref n), .val (.int m), .non, .non] [3]) = some [.val (.ref n), .val (.int m), .non, .val x] := rfl
      unfold turnC
      rw [w, opS, ret_bd, show ev C (.c (.bl true)) [.val (.ref n), .val (.int m), .non, .val x] = M.ret (.bl true) from by simp only [execs_nil, execs_cons, nxt_nx, nxt_ret, fin_nx, fin_ret, exec, ev, evs, evL_L, ret_bd, pur_bd, fai_bd, thr_bd, pur_ret, opS, opN, bd_bd, ite_bd, opIf, gs0, gs1, gs2, gs3, gs4, gs5, gs6, gs7, gs8, gs9, gs10, ss0, ss1, ss2, ss3, ss4, ss5, ss6, ss7, ss8, ss9, ss10, setTg, setTgs, Option.bind_some, Option.map_some, Option.map_none, truth, truthD, cmpD, cmpP, eqD, binP, isiM, isiAny, isiD, b1M, b1P, b2P, ixM, ixP, mkC_call, mkC_dfl, mkC_glo, mkC_sup, List.map, List.replicate, List.cons_append, List.nil_append, List.append_nil, Nat.reduceSub, List.reduceReplicate, Int.reduceLT, Int.reduceLE, Int.reduceEq, if_true, if_false, Bool.or_false, Bool.or_true, Bool.false_eq_true, Bool.not_true, Bool.not_false, Bool.true_and, Bool.and_true, decide_eq_true_eq], ret_bd]
      show (ev C _ _ >>= fun y => pure (some y)) h = _
      rw [bndH e]
      rfl) (rngD 0 N) [] B h hs (by rw [ln]; omega) (by rw [ln, hline]; simp; omega)
  rw [ln] at s1
  rw [ln, List.length_nil, Nat.zero_add] at l1
  have lcs : cs.length ≤ line := by rw [hline]; omega
  have j := sm_join lcs
  have eL : evL C compFig [.val (.ref n), .val (.int m), .non, .non] h = .ok (cs.map fun c => .str [c]) h1 := by
    unfold compFig
    rw [evL, eI, ret_bd]
    exact e1
  have st1 : exec C (.set 2 (.sm .join (.c (.str [])) [(.fz compFig)])) [.val (.ref n), .val (.int m), .non, .non] h = .ok (.nx, [.val (.ref n), .val (.int m), .val (.str cs), .non]) h1 := by
    refine ex_setH (d := .str cs) ?_ ss2
    simp only [execs_nil, execs_cons, nxt_nx, nxt_ret, fin_nx, fin_ret, exec, ev, evs, evL_L, ret_bd, pur_bd, fai_bd, thr_bd, pur_ret, opS, opN, bd_bd, ite_bd, opIf, gs0, gs1, gs2, gs3, gs4, gs5, gs6, gs7, gs8, gs9, gs10, ss0, ss1, ss2, ss3, ss4, ss5, ss6, ss7, ss8, ss9, ss10, setTg, setTgs, Option.bind_some, Option.map_some, Option.map_none, truth, truthD, cmpD, cmpP, eqD, binP, isiM, isiAny, isiD, b1M, b1P, b2P, ixM, ixP, mkC_call, mkC_dfl, mkC_glo, mkC_sup, List.map, List.replicate, List.cons_append, List.nil_append, List.append_nil, Nat.reduceSub, List.reduceReplicate, Int.reduceLT, Int.reduceLE, Int.reduceEq, if_true, if_false, Bool.or_false, Bool.or_true, Bool.false_eq_true, Bool.not_true, Bool.not_false, Bool.true_and, Bool.and_true, decide_eq_true_eq, smR]
    rw [bndH eL]
    simp only [execs_nil, execs_cons, nxt_nx, nxt_ret, fin_nx, fin_ret, exec, ev, evs, evL_L, ret_bd, pur_bd, fai_bd, thr_bd, pur_ret, opS, opN, bd_bd, ite_bd, opIf, gs0, gs1, gs2, gs3, gs4, gs5, gs6, gs7, gs8, gs9, gs10, ss0, ss1, ss2, ss3, ss4, ss5, ss6, ss7, ss8, ss9, ss10, setTg, setTgs, Option.bind_some, Option.map_some, Option.map_none, truth, truthD, cmpD, cmpP, eqD, binP, isiM, isiAny, isiD, b1M, b1P, b2P, ixM, ixP, mkC_call, mkC_dfl, mkC_glo, mkC_sup, List.map, List.replicate, List.cons_append, List.nil_append, List.append_nil, Nat.reduceSub, List.reduceReplicate, Int.reduceLT, Int.reduceLE, Int.reduceEq, if_true, if_false, Bool.or_false, Bool.or_true, Bool.false_eq_true, Bool.not_true, Bool.not_false, Bool.true_and, Bool.and_true, decide_eq_true_eq, j, retH]
  -- the first one
  obtain ⟨c, h2, e2, s2⟩ := draw_sign (C := C) T d1 (row := [49, 50, 51, 52, 53, 54, 55, 56, 57]) (m := 9) rfl (by decide) (by decide) (ρ := [.val (.ref n), .val (.int m), .val (.str cs), .non]) gs0 s1 (by omega)
  have mo : (-1000000 : Int) ≤ m - 45 ∧ m - 45 ≤ 10000 ∧ ([55] : List Nat).length = 1 := ⟨by omega, by omega, rfl⟩
  have lc : (cs.drop 1).length ≤ 45 := by rw [List.length_drop]; omega
  generalize hw : c :: (cs.drop 1 ++ (List.replicate (m - 45).toNat [55]).flatten) = w
  have lr : ((List.replicate (m - 45).toNat [55]).flatten).length ≤ 6000 := by
    rw [List.length_flatten, List.map_replicate, List.sum_replicate_nat]
    simp
    omega
  have lw : w.length ≤ 6100 := by rw [← hw, List.length_cons, List.length_append]; omega
  have st2 : exec C (.set 2 (.bin .Add (.bin .Add (.ix (.c (.str [49, 50, 51, 52, 53, 54, 55, 56, 57])) (.call 294 0 [(.v 0), (.c (.int 9))])) (.sl (.v 2) (.c (.int 1)) .nul)) (.bin .Mult (.c (.str [55])) (.bin .Sub (.v 1) (.c (.int 45))))))
      [.val (.ref n), .val (.int m), .val (.str cs), .non] h1 = .ok (.nx, [.val (.ref n), .val (.int m), .val (.str w), .non]) h2 := by
    refine ex_setH (d := .str w) ?_ ss2
    have a1 : ([c] : List Nat).length + (cs.drop 1).length ≤ line := by rw [hline, List.length_singleton]; omega
    have a2 : (c :: cs.drop 1).length + ((List.replicate (m - 45).toNat [55]).flatten).length ≤ line := by rw [hline, List.length_cons]; omega
    rw [ev, ev]
    rw [show ((((ev C (.ix (.c (.str [49, 50, 51, 52, 53, 54, 55, 56, 57])) (.call 294 0 [(.v 0), (.c (.int 9))]))) [.val (.ref n), .val (.int m), .val (.str cs), .non] >>= fun x => ev C (.sl (.v 2) (.c (.int 1)) .nul) [.val (.ref n), .val (.int m), .val (.str cs), .non] >>= fun y => M.opt (binP .Add x y)) >>= fun x => ev C (.bin .Mult (.c (.str [55])) (.bin .Sub (.v 1) (.c (.int 45)))) [.val (.ref n), .val (.int m), .val (.str cs), .non] >>= fun y => M.opt (binP .Add x y)) h1)
      = (((fun x => ev C (.sl (.v 2) (.c (.int 1)) .nul) [.val (.ref n), .val (.int m), .val (.str cs), .non] >>= fun y => M.opt (binP .Add x y)) (.str [c]) >>= fun x => ev C (.bin .Mult (.c (.str [55])) (.bin .Sub (.v 1) (.c (.int 45)))) [.val (.ref n), .val (.int m), .val (.str cs), .non] >>= fun y => M.opt (binP .Add x y)) h2) from by rw [bd_bd, bndH e2]]
    simp only [execs_nil, execs_cons, nxt_nx, nxt_ret, fin_nx, fin_ret, exec, ev, evs, evL_L, ret_bd, pur_bd, fai_bd, thr_bd, pur_ret, opS, opN, bd_bd, ite_bd, opIf, gs0, gs1, gs2, gs3, gs4, gs5, gs6, gs7, gs8, gs9, gs10, ss0, ss1, ss2, ss3, ss4, ss5, ss6, ss7, ss8, ss9, ss10, setTg, setTgs, Option.bind_some, Option.map_some, Option.map_none, truth, truthD, cmpD, cmpP, eqD, binP, isiM, isiAny, isiD, b1M, b1P, b2P, ixM, ixP, mkC_call, mkC_dfl, mkC_glo, mkC_sup, List.map, List.replicate, List.cons_append, List.nil_append, List.append_nil, Nat.reduceSub, List.reduceReplicate, Int.reduceLT, Int.reduceLE, Int.reduceEq, if_true, if_false, Bool.or_false, Bool.or_true, Bool.false_eq_true, Bool.not_true, Bool.not_false, Bool.true_and, Bool.and_true, decide_eq_true_eq, endM, isNul, endV, slP, cut1, lcs, a1, a2, mo, and_self, hw, retH]
  -- sometimes a 0 ahead
  obtain ⟨z, h3, e3, z0, z1, s3⟩ := T _ 12 h2 s2 (by omega) (small190 (by decide))
  have key : ∃ w2 : List Nat, w2.length ≤ 6200 ∧ exec C (.iff (.cmp .Eq (.call 294 0 [(.v 0), (.c (.int 12))]) (.c (.int 0))) [.set 2 (.bin .Add (.c (.str [48])) (.sl (.v 2) (.c (.int 1)) .nul))] [])
      [.val (.ref n), .val (.int m), .val (.str w), .non] h2 = .ok (.nx, [.val (.ref n), .val (.int m), .val (.str w2), .non]) h3 := by
    have lwl : w.length ≤ line := by rw [hline]; omega
    have ld : (w.drop 1).length ≤ 6100 := by rw [List.length_drop]; omega
    have a1 : ([48] : List Nat).length + (w.drop 1).length ≤ line := by rw [hline, List.length_singleton]; omega
    by_cases q : z = 0
    · refine ⟨[48] ++ w.drop 1, by rw [List.length_append, List.length_singleton]; omega, ?_⟩
      rw [exH_t (h' := h3) (by simp only [execs_nil, execs_cons, nxt_nx, nxt_ret, fin_nx, fin_ret, exec, ev, evs, evL_L, ret_bd, pur_bd, fai_bd, thr_bd, pur_ret, opS, opN, bd_bd, ite_bd, opIf, gs0, gs1, gs2, gs3, gs4, gs5, gs6, gs7, gs8, gs9, gs10, ss0, ss1, ss2, ss3, ss4, ss5, ss6, ss7, ss8, ss9, ss10, setTg, setTgs, Option.bind_some, Option.map_some, Option.map_none, truth, truthD, cmpD, cmpP, eqD, binP, isiM, isiAny, isiD, b1M, b1P, b2P, ixM, ixP, mkC_call, mkC_dfl, mkC_glo, mkC_sup, List.map, List.replicate, List.cons_append, List.nil_append, List.append_nil, Nat.reduceSub, List.reduceReplicate, Int.reduceLT, Int.reduceLE, Int.reduceEq, if_true, if_false, Bool.or_false, Bool.or_true, Bool.false_eq_true, Bool.not_true, Bool.not_false, Bool.true_and, Bool.and_true, decide_eq_true_eq, d1, bndH e3, q, decide_true, retH])]
      rw [seqH_nx (ρ' := [.val (.ref n), .val (.int m), .val (.str ([48] ++ w.drop 1)), .non]) (h' := h3) (ex_setH (d := .str ([48] ++ w.drop 1)) (by simp only [execs_nil, execs_cons, nxt_nx, nxt_ret, fin_nx, fin_ret, exec, ev, evs, evL_L, ret_bd, pur_bd, fai_bd, thr_bd, pur_ret, opS, opN, bd_bd, ite_bd, opIf, gs0, gs1, gs2, gs3, gs4, gs5, gs6, gs7, gs8, gs9, gs10, ss0, ss1, ss2, ss3, ss4, ss5, ss6, ss7, ss8, ss9, ss10, setTg, setTgs, Option.bind_some, Option.map_some, Option.map_none, truth, truthD, cmpD, cmpP, eqD, binP, isiM, isiAny, isiD, b1M, b1P, b2P, ixM, ixP, mkC_call, mkC_dfl, mkC_glo, mkC_sup, List.map, List.replicate, List.cons_append, List.nil_append, List.append_nil, Nat.reduceSub, List.reduceReplicate, Int.reduceLT, Int.reduceLE, Int.reduceEq, if_true, if_false, Bool.or_false, Bool.or_true, Bool.false_eq_true, Bool.not_true, Bool.not_false, Bool.true_and, Bool.and_true, decide_eq_true_eq, endM, isNul, endV, slP, cut1, lwl, a1, retH]) ss2), execs_nil, retH]
    · refine ⟨w, by omega, ?_⟩
      rw [exH_f (h' := h3) (by simp only [execs_nil, execs_cons, nxt_nx, nxt_ret, fin_nx, fin_ret, exec, ev, evs, evL_L, ret_bd, pur_bd, fai_bd, thr_bd, pur_ret, opS, opN, bd_bd, ite_bd, opIf, gs0, gs1, gs2, gs3, gs4, gs5, gs6, gs7, gs8, gs9, gs10, ss0, ss1, ss2, ss3, ss4, ss5, ss6, ss7, ss8, ss9, ss10, setTg, setTgs, Option.bind_some, Option.map_some, Option.map_none, truth, truthD, cmpD, cmpP, eqD, binP, isiM, isiAny, isiD, b1M, b1P, b2P, ixM, ixP, mkC_call, mkC_dfl, mkC_glo, mkC_sup, List.map, List.replicate, List.cons_append, List.nil_append, List.append_nil, Nat.reduceSub, List.reduceReplicate, Int.reduceLT, Int.reduceLE, Int.reduceEq, if_true, if_false, Bool.or_false, Bool.or_true, Bool.false_eq_true, Bool.not_true, Bool.not_false, Bool.true_and, Bool.and_true, decide_eq_true_eq, d1, bndH e3, q, decide_false, retH]), execs_nil, retH]
  obtain ⟨w2, lw2, st3⟩ := key
  obtain ⟨u, h4, e4, u0, u1, s4⟩ := T _ 6 h3 s3 (by omega) (small190 (by decide))
  have uq : u.fdiv 4 = 0 ∨ u.fdiv 4 = 1 := by rw [fd (by decide)]; omega
  generalize hr : (List.replicate (u.fdiv 4).toNat [45]).flatten = r
  have lr2 : r.length ≤ 1 := by
    rcases uq with q | q
    · rw [q] at hr; subst hr; decide
    · rw [q] at hr; subst hr; decide
  refine ⟨r ++ w2, h4, finR (ρ' := [.val (.ref n), .val (.int m), .val (.str w2), .non]) ?_, by rw [List.length_append]; omega, s4.mono (by omega)⟩
  show execs C [.set 2 (.sm .join (.c (.str [])) [(.fz compFig)]), _, _, _] _ _ = _
  rw [seqH_nx st1, seqH_nx st2, seqH_nx st3]
  refine seqH_ret (ex_retH ?_)
  have n4 : (4 : Int) ≠ 0 ∧ (4 : Int).natAbs.log2 < 9000 := by decide
  have mo2 : (-1000000 : Int) ≤ u.fdiv 4 ∧ u.fdiv 4 ≤ 10000 ∧ ([45] : List Nat).length = 1 := ⟨by omega, by omega, rfl⟩
  have a3 : r.length + w2.length ≤ line := by rw [hline]; omega
  simp only [execs_nil, execs_cons, nxt_nx, nxt_ret, fin_nx, fin_ret, exec, ev, evs, evL_L, ret_bd, pur_bd, fai_bd, thr_bd, pur_ret, opS, opN, bd_bd, ite_bd, opIf, gs0, gs1, gs2, gs3, gs4, gs5, gs6, gs7, gs8, gs9, gs10, ss0, ss1, ss2, ss3, ss4, ss5, ss6, ss7, ss8, ss9, ss10, setTg, setTgs, Option.bind_some, Option.map_some, Option.map_none, truth, truthD, cmpD, cmpP, eqD, binP, isiM, isiAny, isiD, b1M, b1P, b2P, ixM, ixP, mkC_call, mkC_dfl, mkC_glo, mkC_sup, List.map, List.replicate, List.cons_append, List.nil_append, List.append_nil, Nat.reduceSub, List.reduceReplicate, Int.reduceLT, Int.reduceLE, Int.reduceEq, if_true, if_false, Bool.or_false, Bool.or_true, Bool.false_eq_true, Bool.not_true, Bool.not_false, Bool.true_and, Bool.and_true, decide_eq_true_eq, d1, bndH e4, n4, ne_eq, not_false_eq_true, and_self, mo2, hr, a3, retH]
/-- _law_changed -/
theorem ch_1 (k n B : Nat) (w : List Nat) (lw : w.length ≤ 10000) (h : Hs) (hs : Sto n B h) (hB : B + 3 ≤ 2 ^ 60) : ∃ w' h', callF pg (k + 3) 114 [.ref n, .str w] h = .ok (.str w') h' ∧ w'.length ≤ 30001 ∧ Sto n (B + 3) h' := by
  rw [callS (k := k + 2) (d := ⟨2, 5, ir114⟩) rfl rfl]
  have T := tkC k n
  have d1 : (mkC pg (callF pg (k + 2))).dfl 294 0 = [] := rfl
  generalize mkC pg (callF pg (k + 2)) = C at T d1 ⊢
  show ∃ z h', (execs C ir114 [.val (.ref n), .val (.str w), .non, .non, .non] >>= fin) h = _ ∧ _
  have ll : w.length ≤ line := by rw [hline]; omega
  obtain ⟨c, h1, e1, s1⟩ := draw_sign (C := C) T d1 (row := [32, 43, 45, 46, 47, 48, 95, 57, 101, 10, 44, 120, 88, 126]) (m := 14) rfl (by decide) (by decide) (ρ := [.val (.ref n), .val (.str w), .non, .non, .non]) gs0 hs (by omega)
  obtain ⟨x, h2, e2, x0, x1, s2⟩ := T _ ((w.length : Int) + 1) h1 s1 (by omega) (small190 (Nat.lt_of_le_of_lt (show _ ≤ 10001 by omega) (by decide +kernel)))
  obtain ⟨y, h3, e3, y0, y1, s3⟩ := T _ 4 h2 s2 (by omega) (small190 (by decide))
  have a1 := cut_le w none (some x)
  have a2 := cut_le w (some (x + 1)) none
  have a3 := cut_le w (some x) (some (x + 1))
  have a4 := cut_le w (some x) none
  generalize hA : cutD w none (some x) = A at a1
  generalize hB2 : cutD w (some (x + 1)) none = B2 at a2
  generalize hD : cutD w (some x) (some (x + 1)) = D2 at a3
  generalize hE : cutD w (some x) none = E2 at a4
  have b1 : A.length + B2.length ≤ line := by rw [hline]; omega
  have b2 : A.length + ([c] : List Nat).length ≤ line := by rw [hline, List.length_singleton]; omega
  have b3 : (A ++ [c]).length + B2.length ≤ line := by rw [hline, List.length_append, List.length_singleton]; omega
  have b4 : A.length + D2.length ≤ line := by rw [hline]; omega
  have b5 : (A ++ D2).length + E2.length ≤ line := by rw [hline, List.length_append]; omega
  have b6 : (A ++ [c]).length + E2.length ≤ line := by rw [hline, List.length_append, List.length_singleton]; omega
  have st1 : exec C (.set 2 (.ix (.c (.str [32, 43, 45, 46, 47, 48, 95, 57, 101, 10, 44, 120, 88, 126])) (.call 294 0 [(.v 0), (.c (.int 14))]))) [.val (.ref n), .val (.str w), .non, .non, .non] h = .ok (.nx, [.val (.ref n), .val (.str w), .val (.str [c]), .non, .non]) h1 := ex_setH e1 ss2
  have st2 : exec C (.set 3 (.call 294 0 [(.v 0), (.bin .Add (.b1 .len (.v 1)) (.c (.int 1)))])) [.val (.ref n), .val (.str w), .val (.str [c]), .non, .non] h1 = .ok (.nx, [.val (.ref n), .val (.str w), .val (.str [c]), .val (.int x), .non]) h2 :=
    ex_setH (d := .int x) (by simp only [execs_nil, execs_cons, nxt_nx, nxt_ret, fin_nx, fin_ret, exec, ev, evs, evL_L, ret_bd, pur_bd, fai_bd, thr_bd, pur_ret, opS, opN, bd_bd, ite_bd, opIf, gs0, gs1, gs2, gs3, gs4, gs5, gs6, gs7, gs8, gs9, gs10, ss0, ss1, ss2, ss3, ss4, ss5, ss6, ss7, ss8, ss9, ss10, setTg, setTgs, Option.bind_some, Option.map_some, Option.map_none, truth, truthD, cmpD, cmpP, eqD, binP, isiM, isiAny, isiD, b1M, b1P, b2P, ixM, ixP, mkC_call, mkC_dfl, mkC_glo, mkC_sup, List.map, List.replicate, List.cons_append, List.nil_append, List.append_nil, Nat.reduceSub, List.reduceReplicate, Int.reduceLT, Int.reduceLE, Int.reduceEq, if_true, if_false, Bool.or_false, Bool.or_true, Bool.false_eq_true, Bool.not_true, Bool.not_false, Bool.true_and, Bool.and_true, decide_eq_true_eq, ll, d1, e2]) ss3
  have st3 : exec C (.set 4 (.call 294 0 [(.v 0), (.c (.int 4))])) [.val (.ref n), .val (.str w), .val (.str [c]), .val (.int x), .non] h2 = .ok (.nx, [.val (.ref n), .val (.str w), .val (.str [c]), .val (.int x), .val (.int y)]) h3 :=
    ex_setH (d := .int y) (by simp only [execs_nil, execs_cons, nxt_nx, nxt_ret, fin_nx, fin_ret, exec, ev, evs, evL_L, ret_bd, pur_bd, fai_bd, thr_bd, pur_ret, opS, opN, bd_bd, ite_bd, opIf, gs0, gs1, gs2, gs3, gs4, gs5, gs6, gs7, gs8, gs9, gs10, ss0, ss1, ss2, ss3, ss4, ss5, ss6, ss7, ss8, ss9, ss10, setTg, setTgs, Option.bind_some, Option.map_some, Option.map_none, truth, truthD, cmpD, cmpP, eqD, binP, isiM, isiAny, isiD, b1M, b1P, b2P, ixM, ixP, mkC_call, mkC_dfl, mkC_glo, mkC_sup, List.map, List.replicate, List.cons_append, List.nil_append, List.append_nil, Nat.reduceSub, List.reduceReplicate, Int.reduceLT, Int.reduceLE, Int.reduceEq, if_true, if_false, Bool.or_false, Bool.or_true, Bool.false_eq_true, Bool.not_true, Bool.not_false, Bool.true_and, Bool.and_true, decide_eq_true_eq, d1, e3]) ss4
  have nx : ∀ (v : Int) (b : List PL.St), y ≠ v → exec C (.iff (.cmp .Eq (.v 4) (.c (.int v))) b []) [.val (.ref n), .val (.str w), .val (.str [c]), .val (.int x), .val (.int y)] h3 = .ok (.nx, [.val (.ref n), .val (.str w), .val (.str [c]), .val (.int x), .val (.int y)]) h3 := fun v b hv => by
    rw [exH_f (h' := h3) (by simp only [execs_nil, execs_cons, nxt_nx, nxt_ret, fin_nx, fin_ret, exec, ev, evs, evL_L, ret_bd, pur_bd, fai_bd, thr_bd, pur_ret, opS, opN, bd_bd, ite_bd, opIf, gs0, gs1, gs2, gs3, gs4, gs5, gs6, gs7, gs8, gs9, gs10, ss0, ss1, ss2, ss3, ss4, ss5, ss6, ss7, ss8, ss9, ss10, setTg, setTgs, Option.bind_some, Option.map_some, Option.map_none, truth, truthD, cmpD, cmpP, eqD, binP, isiM, isiAny, isiD, b1M, b1P, b2P, ixM, ixP, mkC_call, mkC_dfl, mkC_glo, mkC_sup, List.map, List.replicate, List.cons_append, List.nil_append, List.append_nil, Nat.reduceSub, List.reduceReplicate, Int.reduceLT, Int.reduceLE, Int.reduceEq, if_true, if_false, Bool.or_false, Bool.or_true, Bool.false_eq_true, Bool.not_true, Bool.not_false, Bool.true_and, Bool.and_true, decide_eq_true_eq, hv, decide_false, retH]), execs_nil, retH]
  have yes : ∀ (v : Int) (e : Ex) (s : List Nat), y = v → ev C e [.val (.ref n), .val (.str w), .val (.str [c]), .val (.int x), .val (.int y)] h3 = .ok (.str s) h3 → exec C (.iff (.cmp .Eq (.v 4) (.c (.int v))) [.ret e] []) [.val (.ref n), .val (.str w), .val (.str [c]), .val (.int x), .val (.int y)] h3 = .ok (.ret (.str s), [.val (.ref n), .val (.str w), .val (.str [c]), .val (.int x), .val (.int y)]) h3 := fun v e s hv he => by
    rw [exH_t (h' := h3) (by simp only [execs_nil, execs_cons, nxt_nx, nxt_ret, fin_nx, fin_ret, exec, ev, evs, evL_L, ret_bd, pur_bd, fai_bd, thr_bd, pur_ret, opS, opN, bd_bd, ite_bd, opIf, gs0, gs1, gs2, gs3, gs4, gs5, gs6, gs7, gs8, gs9, gs10, ss0, ss1, ss2, ss3, ss4, ss5, ss6, ss7, ss8, ss9, ss10, setTg, setTgs, Option.bind_some, Option.map_some, Option.map_none, truth, truthD, cmpD, cmpP, eqD, binP, isiM, isiAny, isiD, b1M, b1P, b2P, ixM, ixP, mkC_call, mkC_dfl, mkC_glo, mkC_sup, List.map, List.replicate, List.cons_append, List.nil_append, List.append_nil, Nat.reduceSub, List.reduceReplicate, Int.reduceLT, Int.reduceLE, Int.reduceEq, if_true, if_false, Bool.or_false, Bool.or_true, Bool.false_eq_true, Bool.not_true, Bool.not_false, Bool.true_and, Bool.and_true, decide_eq_true_eq, hv, decide_true, retH])]
    exact seqH_ret (ex_retH he)
  unfold ir114
  by_cases q0 : y = 0
  · refine ⟨A ++ B2, h3, finR ((seqH_nx st1).trans ((seqH_nx st2).trans ((seqH_nx st3).trans (seqH_ret (yes 0 _ _ q0 ?_))))), by rw [List.length_append]; omega, s3⟩
    simp only [execs_nil, execs_cons, nxt_nx, nxt_ret, fin_nx, fin_ret, exec, ev, evs, evL_L, ret_bd, pur_bd, fai_bd, thr_bd, pur_ret, opS, opN, bd_bd, ite_bd, opIf, gs0, gs1, gs2, gs3, gs4, gs5, gs6, gs7, gs8, gs9, gs10, ss0, ss1, ss2, ss3, ss4, ss5, ss6, ss7, ss8, ss9, ss10, setTg, setTgs, Option.bind_some, Option.map_some, Option.map_none, truth, truthD, cmpD, cmpP, eqD, binP, isiM, isiAny, isiD, b1M, b1P, b2P, ixM, ixP, mkC_call, mkC_dfl, mkC_glo, mkC_sup, List.map, List.replicate, List.cons_append, List.nil_append, List.append_nil, Nat.reduceSub, List.reduceReplicate, Int.reduceLT, Int.reduceLE, Int.reduceEq, if_true, if_false, Bool.or_false, Bool.or_true, Bool.false_eq_true, Bool.not_true, Bool.not_false, Bool.true_and, Bool.and_true, decide_eq_true_eq, endM, isNul, endV, slP, ll, hA, hB2, b1, retH]
  · by_cases q1 : y = 1
    · refine ⟨A ++ [c] ++ B2, h3, finR ((seqH_nx st1).trans ((seqH_nx st2).trans ((seqH_nx st3).trans ((seqH_nx (nx 0 _ q0)).trans (seqH_ret (yes 1 _ _ q1 ?_)))))), by rw [List.length_append, List.length_append, List.length_singleton]; omega, s3⟩
      simp only [execs_nil, execs_cons, nxt_nx, nxt_ret, fin_nx, fin_ret, exec, ev, evs, evL_L, ret_bd, pur_bd, fai_bd, thr_bd, pur_ret, opS, opN, bd_bd, ite_bd, opIf, gs0, gs1, gs2, gs3, gs4, gs5, gs6, gs7, gs8, gs9, gs10, ss0, ss1, ss2, ss3, ss4, ss5, ss6, ss7, ss8, ss9, ss10, setTg, setTgs, Option.bind_some, Option.map_some, Option.map_none, truth, truthD, cmpD, cmpP, eqD, binP, isiM, isiAny, isiD, b1M, b1P, b2P, ixM, ixP, mkC_call, mkC_dfl, mkC_glo, mkC_sup, List.map, List.replicate, List.cons_append, List.nil_append, List.append_nil, Nat.reduceSub, List.reduceReplicate, Int.reduceLT, Int.reduceLE, Int.reduceEq, if_true, if_false, Bool.or_false, Bool.or_true, Bool.false_eq_true, Bool.not_true, Bool.not_false, Bool.true_and, Bool.and_true, decide_eq_true_eq, endM, isNul, endV, slP, ll, hA, hB2, b2, b3, retH]
    · by_cases q2 : y = 2
      · refine ⟨A ++ D2 ++ E2, h3, finR ((seqH_nx st1).trans ((seqH_nx st2).trans ((seqH_nx st3).trans ((seqH_nx (nx 0 _ q0)).trans ((seqH_nx (nx 1 _ q1)).trans (seqH_ret (yes 2 _ _ q2 ?_))))))), by rw [List.length_append, List.length_append]; omega, s3⟩
        simp only [execs_nil, execs_cons, nxt_nx, nxt_ret, fin_nx, fin_ret, exec, ev, evs, evL_L, ret_bd, pur_bd, fai_bd, thr_bd, pur_ret, opS, opN, bd_bd, ite_bd, opIf, gs0, gs1, gs2, gs3, gs4, gs5, gs6, gs7, gs8, gs9, gs10, ss0, ss1, ss2, ss3, ss4, ss5, ss6, ss7, ss8, ss9, ss10, setTg, setTgs, Option.bind_some, Option.map_some, Option.map_none, truth, truthD, cmpD, cmpP, eqD, binP, isiM, isiAny, isiD, b1M, b1P, b2P, ixM, ixP, mkC_call, mkC_dfl, mkC_glo, mkC_sup, List.map, List.replicate, List.cons_append, List.nil_append, List.append_nil, Nat.reduceSub, List.reduceReplicate, Int.reduceLT, Int.reduceLE, Int.reduceEq, if_true, if_false, Bool.or_false, Bool.or_true, Bool.false_eq_true, Bool.not_true, Bool.not_false, Bool.true_and, Bool.and_true, decide_eq_true_eq, endM, isNul, endV, slP, ll, hA, hD, hE, b4, b5, retH]
      · refine ⟨A ++ [c] ++ E2, h3, finR ((seqH_nx st1).trans ((seqH_nx st2).trans ((seqH_nx st3).trans ((seqH_nx (nx 0 _ q0)).trans ((seqH_nx (nx 1 _ q1)).trans ((seqH_nx (nx 2 _ q2)).trans (seqH_ret (ex_retH ?_)))))))), by rw [List.length_append, List.length_append, List.length_singleton]; omega, s3⟩
        simp only [execs_nil, execs_cons, nxt_nx, nxt_ret, fin_nx, fin_ret, exec, ev, evs, evL_L, ret_bd, pur_bd, fai_bd, thr_bd, pur_ret, opS, opN, bd_bd, ite_bd, opIf, gs0, gs1, gs2, gs3, gs4, gs5, gs6, gs7, gs8, gs9, gs10, ss0, ss1, ss2, ss3, ss4, ss5, ss6, ss7, ss8, ss9, ss10, setTg, setTgs, Option.bind_some, Option.map_some, Option.map_none, truth, truthD, cmpD, cmpP, eqD, binP, isiM, isiAny, isiD, b1M, b1P, b2P, ixM, ixP, mkC_call, mkC_dfl, mkC_glo, mkC_sup, List.map, List.replicate, List.cons_append, List.nil_append, List.append_nil, Nat.reduceSub, List.reduceReplicate, Int.reduceLT, Int.reduceLE, Int.reduceEq, if_true, if_false, Bool.or_false, Bool.or_true, Bool.false_eq_true, Bool.not_true, Bool.not_false, Bool.true_and, Bool.and_true, decide_eq_true_eq, endM, isNul, endV, slP, ll, hA, hE, b2, b6, retH]
end PL.k71
end
section
set_option Elab.async false
set_option linter.all false
set_option maxRecDepth 100000
/-! K71D3: the words of the law. -/
namespace PL.k71
open PySem PL
open SX _root_.TL
/-- what the defs around give -/
structure Dw (C : Cfg) (n : Nat) : Prop where
  T : TkC C n
  d : ∀ f, f = 294 ∨ f = 190 ∨ f = 154 ∨ f = 114 ∨ f = 146 ∨ f = 224 → C.dfl f 0 = []
  lw : ∀ B a b h, isF a b = true → a.natAbs < N40 → b.natAbs < N40 → Sto n B h → B + 1 ≤ 2 ^ 60 → ∃ w h', C.call 190 [.ref n, fr a b] h = .ok (.str w) h' ∧ fracD w = fr a b ∧ w.length ≤ 9000 ∧ Sto n (B + 1) h'
  fw : ∀ B h, Sto n B h → B + 7 ≤ 2 ^ 60 → ∃ d h', C.call 154 [.ref n] h = .ok d h' ∧ FrD d ∧ Sto n (B + 7) h'
  ch : ∀ B w h, w.length ≤ 10000 → Sto n B h → B + 3 ≤ 2 ^ 60 → ∃ w' h', C.call 114 [.ref n, .str w] h = .ok (.str w') h' ∧ w'.length ≤ 30001 ∧ Sto n (B + 3) h'
  fg : ∀ B m h, 1 ≤ m ∧ m ≤ 6000 → Sto n B h → B + 60 ≤ 2 ^ 60 → ∃ w h', C.call 146 [.ref n, .int m] h = .ok (.str w) h' ∧ w.length ≤ 7000 ∧ Sto n (B + 60) h'
  pk : ∀ B ds h, ds ≠ [] → ds.length < 2 ^ 100 → Sto n B h → B + 1 ≤ 2 ^ 60 → ∃ d h', C.call 224 [.ref n, .lst ds] h = .ok d h' ∧ d ∈ ds ∧ Sto n (B + 1) h'
theorem dw (k n : Nat) : Dw (mkC pg (callF pg (k + 4))) n where
  T := tkC (k + 2) n
  d := fun f hf => by rcases hf with rfl | rfl | rfl | rfl | rfl | rfl <;> rfl
  lw := fun B a b h h1 h2 h3 hs hB => lw_1 (k + 1) n B a b h1 h2 h3 h hs hB
  fw := fun B h hs hB => fw_1 k n B h hs hB
  ch := fun B w h hw hs hB => ch_1 (k + 1) n B w hw h hs hB
  fg := fun B m h hm hs hB => fg_1 (k + 1) n B m hm h hs hB
  pk := fun B ds h h0 hl hs hB => pk1 (k + 1) n B ds h hs hB h0 hl
/-- figures of a size that is picked -/
theorem fig_of {C : Cfg} {n : Nat} (W : Dw C n) {sizes : List Int} (h0 : sizes ≠ []) (hl : sizes.length < 100) (hz : ∀ z ∈ sizes, 1 ≤ z ∧ z ≤ 6000) {e : Ex} {ρ : PL.Env} {B : Nat} {h : Hs} (hρ : getSl ρ 0 = M.ret (.ref n)) (he : ev C e ρ = M.ret (.lst (sizes.map .int))) (hs : Sto n B h) (hB : B + 61 ≤ 2 ^ 60) :
    ∃ w h', ev C (.call 146 0 [(.v 0), (.call 224 0 [(.v 0), e])]) ρ h = .ok (.str w) h' ∧ w.length ≤ 7000 ∧ Sto n (B + 61) h' := by
  obtain ⟨d, h1, e1, hd, s1⟩ := W.pk B (sizes.map .int) h (by simpa using h0) (by rw [List.length_map]; exact Nat.lt_trans hl (by decide +kernel)) hs (by omega)
  obtain ⟨z, hz1, rfl⟩ := List.mem_map.mp hd
  obtain ⟨w, h2, e2, l2, s2⟩ := W.fg (B + 1) z h1 (hz z hz1) s1 (by omega)
  have d1 := W.d 146 (by simp)
  have d2 := W.d 224 (by simp)
  refine ⟨w, h2, ?_, l2, s2.mono (by omega)⟩
  simp only [ev, evs, hρ, ret_bd, he, pur_bd, pur_ret, d1, d2, List.append_nil, bd_bd]
  rw [bndH e1]
  exact e2
def sizes (z : Int) : List Int := [1, 2, 39, 40, 40, 41, 42, 1 + z]
/-- _law_word_drawn -/
theorem wd_1 (k n B : Nat) (h : Hs) (hs : Sto n B h) (hB : B + 300 ≤ 2 ^ 60) : ∃ w h', callF pg (k + 5) 321 [.ref n] h = .ok (.str w) h' ∧ w.length ≤ 40000 ∧ Sto n (B + 300) h' := by
  rw [callS (k := k + 4) (d := ⟨1, 5, ir321⟩) rfl rfl]
  have W := dw k n
  generalize mkC pg (callF pg (k + 4)) = C at W ⊢
  have T := W.T
  have d1 := W.d 294 (by simp)
  have d2 := W.d 190 (by simp)
  have d3 := W.d 154 (by simp)
  have d4 := W.d 114 (by simp)
  have d5 := W.d 146 (by simp)
  have d6 := W.d 224 (by simp)
  show ∃ z h', (execs C ir321 [.val (.ref n), .non, .non, .non, .non] >>= fin) h = _ ∧ _
  obtain ⟨y, h1, e1, y0, y1, s1⟩ := T B 9 h hs (by omega) (small190 (by decide))
  obtain ⟨z, h2, e2, z0, z1, s2⟩ := T _ 40 h1 s1 (by omega) (small190 (by decide))
  have st1 : exec C (.set 1 (.call 294 0 [(.v 0), (.c (.int 9))])) [.val (.ref n), .non, .non, .non, .non] h = .ok (.nx, [.val (.ref n), .val (.int y), .non, .non, .non]) h1 := ex_setH (d := .int y) (by simp only [execs_nil, execs_cons, nxt_nx, nxt_ret, fin_nx, fin_ret, exec, ev, evs, evL_L, ret_bd, pur_bd, fai_bd, thr_bd, pur_ret, opS, opN, bd_bd, ite_bd, opIf, gs0, gs1, gs2, gs3, gs4, gs5, gs6, gs7, gs8, gs9, gs10, ss0, ss1, ss2, ss3, ss4, ss5, ss6, ss7, ss8, ss9, ss10, setTg, setTgs, Option.bind_some, Option.map_some, Option.map_none, truth, truthD, cmpD, cmpP, eqD, binP, isiM, isiAny, isiD, b1M, b1P, b2P, ixM, ixP, mkC_call, mkC_dfl, mkC_glo, mkC_sup, List.map, List.replicate, List.cons_append, List.nil_append, List.append_nil, Nat.reduceSub, List.reduceReplicate, Int.reduceLT, Int.reduceLE, Int.reduceEq, if_true, if_false, Bool.or_false, Bool.or_true, Bool.false_eq_true, Bool.not_true, Bool.not_false, Bool.true_and, Bool.and_true, decide_eq_true_eq, d1, e1]) ss1
  have l8 : (8 : Nat) ≤ line := by rw [hline]; decide
  have st2 : exec C (.set 2 (.fz (.L [(.c (.int 1)), (.c (.int 2)), (.c (.int 39)), (.c (.int 40)), (.c (.int 40)), (.c (.int 41)), (.c (.int 42)), (.bin .Add (.c (.int 1)) (.call 294 0 [(.v 0), (.c (.int 40))]))]))) [.val (.ref n), .val (.int y), .non, .non, .non] h1 =
      .ok (.nx, [.val (.ref n), .val (.int y), .val (.lst ((sizes z).map .int)), .non, .non]) h2 := by
    refine ex_setH (d := .lst ((sizes z).map .int)) ?_ ss2
    simp only [execs_nil, execs_cons, nxt_nx, nxt_ret, fin_nx, fin_ret, exec, ev, evs, evL_L, ret_bd, pur_bd, fai_bd, thr_bd, pur_ret, opS, opN, bd_bd, ite_bd, opIf, gs0, gs1, gs2, gs3, gs4, gs5, gs6, gs7, gs8, gs9, gs10, ss0, ss1, ss2, ss3, ss4, ss5, ss6, ss7, ss8, ss9, ss10, setTg, setTgs, Option.bind_some, Option.map_some, Option.map_none, truth, truthD, cmpD, cmpP, eqD, binP, isiM, isiAny, isiD, b1M, b1P, b2P, ixM, ixP, mkC_call, mkC_dfl, mkC_glo, mkC_sup, List.map, List.replicate, List.cons_append, List.nil_append, List.append_nil, Nat.reduceSub, List.reduceReplicate, Int.reduceLT, Int.reduceLE, Int.reduceEq, if_true, if_false, Bool.or_false, Bool.or_true, Bool.false_eq_true, Bool.not_true, Bool.not_false, Bool.true_and, Bool.and_true, decide_eq_true_eq, d1, bndH e2, List.length_cons, List.length_nil, Nat.zero_add, Nat.reduceAdd, l8, retH]
    rfl
  have hsz : ∀ x ∈ sizes z, 1 ≤ x ∧ x ≤ 6000 := by
    intro x hx
    simp only [sizes, List.mem_cons, List.not_mem_nil, or_false] at hx
    rcases hx with rfl | rfl | rfl | rfl | rfl | rfl | rfl | rfl <;> omega
  have noLt : ∀ (v : Int) (b : List PL.St), ¬ y < v → exec C (.iff (.cmp .Lt (.v 1) (.c (.int v))) b []) [.val (.ref n), .val (.int y), .val (.lst ((sizes z).map .int)), .non, .non] h2 = .ok (.nx, [.val (.ref n), .val (.int y), .val (.lst ((sizes z).map .int)), .non, .non]) h2 := fun v b hv => by
    rw [exH_f (h' := h2) (by simp only [execs_nil, execs_cons, nxt_nx, nxt_ret, fin_nx, fin_ret, exec, ev, evs, evL_L, ret_bd, pur_bd, fai_bd, thr_bd, pur_ret, opS, opN, bd_bd, ite_bd, opIf, gs0, gs1, gs2, gs3, gs4, gs5, gs6, gs7, gs8, gs9, gs10, ss0, ss1, ss2, ss3, ss4, ss5, ss6, ss7, ss8, ss9, ss10, setTg, setTgs, Option.bind_some, Option.map_some, Option.map_none, truth, truthD, cmpD, cmpP, eqD, binP, isiM, isiAny, isiD, b1M, b1P, b2P, ixM, ixP, mkC_call, mkC_dfl, mkC_glo, mkC_sup, List.map, List.replicate, List.cons_append, List.nil_append, List.append_nil, Nat.reduceSub, List.reduceReplicate, Int.reduceLT, Int.reduceLE, Int.reduceEq, if_true, if_false, Bool.or_false, Bool.or_true, Bool.false_eq_true, Bool.not_true, Bool.not_false, Bool.true_and, Bool.and_true, decide_eq_true_eq, hv, decide_false, retH]), execs_nil, retH]
  have yesLt : ∀ (v : Int) (e : Ex) (s : List Nat) (h' : Hs), y < v → ev C e [.val (.ref n), .val (.int y), .val (.lst ((sizes z).map .int)), .non, .non] h2 = .ok (.str s) h' → exec C (.iff (.cmp .Lt (.v 1) (.c (.int v))) [.ret e] []) [.val (.ref n), .val (.int y), .val (.lst ((sizes z).map .int)), .non, .non] h2 =
      .ok (.ret (.str s), [.val (.ref n), .val (.int y), .val (.lst ((sizes z).map .int)), .non, .non]) h' := fun v e s h' hv he => by
    rw [exH_t (h' := h2) (by simp only [execs_nil, execs_cons, nxt_nx, nxt_ret, fin_nx, fin_ret, exec, ev, evs, evL_L, ret_bd, pur_bd, fai_bd, thr_bd, pur_ret, opS, opN, bd_bd, ite_bd, opIf, gs0, gs1, gs2, gs3, gs4, gs5, gs6, gs7, gs8, gs9, gs10, ss0, ss1, ss2, ss3, ss4, ss5, ss6, ss7, ss8, ss9, ss10, setTg, setTgs, Option.bind_some, Option.map_some, Option.map_none, truth, truthD, cmpD, cmpP, eqD, binP, isiM, isiAny, isiD, b1M, b1P, b2P, ixM, ixP, mkC_call, mkC_dfl, mkC_glo, mkC_sup, List.map, List.replicate, List.cons_append, List.nil_append, List.append_nil, Nat.reduceSub, List.reduceReplicate, Int.reduceLT, Int.reduceLE, Int.reduceEq, if_true, if_false, Bool.or_false, Bool.or_true, Bool.false_eq_true, Bool.not_true, Bool.not_false, Bool.true_and, Bool.and_true, decide_eq_true_eq, hv, decide_true, retH])]
    exact seqH_ret (ex_retH he)
  unfold ir321
  by_cases c2 : y < 2
  · obtain ⟨d, h3, e3, ⟨a, b, rfl, F, fa, fb⟩, s3⟩ := W.fw _ h2 s2 (by omega)
    obtain ⟨w, h4, e4, _, l4, s4⟩ := W.lw _ a b h3 F fa fb s3 (by omega)
    refine ⟨w, h4, finR ((seqH_nx st1).trans ((seqH_nx st2).trans (seqH_ret (yesLt 2 _ _ h4 c2 ?_)))), by omega, s4.mono (by omega)⟩
    simp only [execs_nil, execs_cons, nxt_nx, nxt_ret, fin_nx, fin_ret, exec, ev, evs, evL_L, ret_bd, pur_bd, fai_bd, thr_bd, pur_ret, opS, opN, bd_bd, ite_bd, opIf, gs0, gs1, gs2, gs3, gs4, gs5, gs6, gs7, gs8, gs9, gs10, ss0, ss1, ss2, ss3, ss4, ss5, ss6, ss7, ss8, ss9, ss10, setTg, setTgs, Option.bind_some, Option.map_some, Option.map_none, truth, truthD, cmpD, cmpP, eqD, binP, isiM, isiAny, isiD, b1M, b1P, b2P, ixM, ixP, mkC_call, mkC_dfl, mkC_glo, mkC_sup, List.map, List.replicate, List.cons_append, List.nil_append, List.append_nil, Nat.reduceSub, List.reduceReplicate, Int.reduceLT, Int.reduceLE, Int.reduceEq, if_true, if_false, Bool.or_false, Bool.or_true, Bool.false_eq_true, Bool.not_true, Bool.not_false, Bool.true_and, Bool.and_true, decide_eq_true_eq, d2, d3, bndH e3, e4]
  · by_cases c4 : y < 4
    · obtain ⟨d, h3, e3, ⟨a, b, rfl, F, fa, fb⟩, s3⟩ := W.fw _ h2 s2 (by omega)
      obtain ⟨w, h4, e4, _, l4, s4⟩ := W.lw _ a b h3 F fa fb s3 (by omega)
      obtain ⟨w5, h5, e5, l5, s5⟩ := W.ch _ w h4 (by omega) s4 (by omega)
      refine ⟨w5, h5, finR ((seqH_nx st1).trans ((seqH_nx st2).trans ((seqH_nx (noLt 2 _ c2)).trans (seqH_ret (yesLt 4 _ _ h5 c4 ?_))))), by omega, s5.mono (by omega)⟩
      simp only [execs_nil, execs_cons, nxt_nx, nxt_ret, fin_nx, fin_ret, exec, ev, evs, evL_L, ret_bd, pur_bd, fai_bd, thr_bd, pur_ret, opS, opN, bd_bd, ite_bd, opIf, gs0, gs1, gs2, gs3, gs4, gs5, gs6, gs7, gs8, gs9, gs10, ss0, ss1, ss2, ss3, ss4, ss5, ss6, ss7, ss8, ss9, ss10, setTg, setTgs, Option.bind_some, Option.map_some, Option.map_none, truth, truthD, cmpD, cmpP, eqD, binP, isiM, isiAny, isiD, b1M, b1P, b2P, ixM, ixP, mkC_call, mkC_dfl, mkC_glo, mkC_sup, List.map, List.replicate, List.cons_append, List.nil_append, List.append_nil, Nat.reduceSub, List.reduceReplicate, Int.reduceLT, Int.reduceLE, Int.reduceEq, if_true, if_false, Bool.or_false, Bool.or_true, Bool.false_eq_true, Bool.not_true, Bool.not_false, Bool.true_and, Bool.and_true, decide_eq_true_eq, d2, d3, d4, bndH e3, bndH e4, e5]
    · by_cases c5 : y = 4
      · -- a few signs
        obtain ⟨u, h3, e3, u0, u1, s3⟩ := T _ 7 h2 s2 (by omega) (small190 (by decide))
        obtain ⟨j, rfl⟩ := Int.eq_ofNat_of_zero_le u0
        have ln : (rngD 0 (j : Int)).length = j := by unfold rngD; rw [List.length_map, List.length_range]; omega
        obtain ⟨cs, h4, e4, l4, s4⟩ := compL_draw (n := n) (turn := fun x => M.tot (turnC [3] (.n 3) (ev C (.c (.bl true))) (ev C (.ix (.c (.str [45, 47, 48, 49, 50, 51, 52, 53, 54, 55, 56, 57, 32, 10])) (.call 294 0 [(.v 0), (.c (.int 14))]))) [.val (.ref n), .val (.int y), .val (.lst ((sizes z).map .int)), .non, .non] x))
          (fun x B h hs hB => by
            obtain ⟨c, h', e, s⟩ := draw_sign (C := C) T d1 (row := [45, 47, 48, 49, 50, 51, 52, 53, 54, 55, 56, 57, 32, 10]) (m := 14) rfl (by decide) (by decide) (ρ := [.val (.ref n), .val (.int y), .val (.lst ((sizes z).map .int)), .val x, .non]) gs0 hs hB
            refine ⟨c, h', totH ?_, s⟩
            have w : setTg (.n 3) x (wipeE [.val (.ref n), .val (.int y), .val (.lst ((sizes z).map .int)), .non, .non] [3]) = some [.val (.ref n), .val (.int y), .val (.lst ((sizes z).map .int)), .val x, .non] := rfl
            unfold turnC
            rw [w, opS, ret_bd, show ev C (.c (.bl true)) [.val (.ref n), .val (.int y), .val (.lst ((sizes z).map .int)), .val x, .non] = M.ret (.bl true) from by simp only [execs_nil, execs_cons, nxt_nx, nxt_ret, fin_nx, fin_ret, exec, ev, evs, evL_L, ret_bd, pur_bd, fai_bd, thr_bd, pur_ret, opS, opN, bd_bd, ite_bd, opIf, gs0, gs1, gs2, gs3, gs4, gs5, gs6, gs7, gs8, gs9, gs10, ss0, ss1, ss2, ss3, ss4, ss5, ss6, ss7, ss8, ss9, ss10, setTg, setTgs, Option.bind_some, Option.map_some, Option.map_none, truth, truthD, cmpD, cmpP, eqD, binP, isiM, isiAny, isiD, b1M, b1P, b2P, ixM, ixP, mkC_call, mkC_dfl, mkC_glo, mkC_sup, List.map, List.replicate, List.cons_append, List.nil_append, List.append_nil, Nat.reduceSub, List.reduceReplicate, Int.reduceLT, Int.reduceLE, Int.reduceEq, if_true, if_false, Bool.or_false, Bool.or_true, Bool.false_eq_true, Bool.not_true, Bool.not_false, Bool.true_and, Bool.and_true, decide_eq_true_eq], ret_bd]
            show (ev C _ _ >>= fun y => pure (some y)) h = _
            rw [bndH e]
            rfl) (rngD 0 j) [] _ h3 s3 (by rw [ln]; omega) (by rw [ln, hline]; simp; omega)
        rw [ln] at s4
        rw [ln, List.length_nil, Nat.zero_add] at l4
        have j2 := sm_join (cs := cs) (by rw [hline]; omega)
        have eI : evI C (.Ir1 (.call 294 0 [(.v 0), (.c (.int 7))])) [.val (.ref n), .val (.int y), .val (.lst ((sizes z).map .int)), .non, .non] h2 = .ok (rngD 0 j) h3 := by
          rw [evI]
          have ec : ev C (.call 294 0 [(.v 0), (.c (.int 7))]) [.val (.ref n), .val (.int y), .val (.lst ((sizes z).map .int)), .non, .non] h2 = .ok (.int j) h3 := by simp only [execs_nil, execs_cons, nxt_nx, nxt_ret, fin_nx, fin_ret, exec, ev, evs, evL_L, ret_bd, pur_bd, fai_bd, thr_bd, pur_ret, opS, opN, bd_bd, ite_bd, opIf, gs0, gs1, gs2, gs3, gs4, gs5, gs6, gs7, gs8, gs9, gs10, ss0, ss1, ss2, ss3, ss4, ss5, ss6, ss7, ss8, ss9, ss10, setTg, setTgs, Option.bind_some, Option.map_some, Option.map_none, truth, truthD, cmpD, cmpP, eqD, binP, isiM, isiAny, isiD, b1M, b1P, b2P, ixM, ixP, mkC_call, mkC_dfl, mkC_glo, mkC_sup, List.map, List.replicate, List.cons_append, List.nil_append, List.append_nil, Nat.reduceSub, List.reduceReplicate, Int.reduceLT, Int.reduceLE, Int.reduceEq, if_true, if_false, Bool.or_false, Bool.or_true, Bool.false_eq_true, Bool.not_true, Bool.not_false, Bool.true_and, Bool.and_true, decide_eq_true_eq, d1, e3]
          rw [bndH ec]
          show (if rngOk (j : Int) = true then pure _ else _ : M (List D)) h3 = _
          rw [if_pos (rng_small (by omega))]
          rfl
        have eL : evL C (.Lc [3] (.n 3) (.Ir1 (.call 294 0 [(.v 0), (.c (.int 7))])) (.c (.bl true)) (.ix (.c (.str [45, 47, 48, 49, 50, 51, 52, 53, 54, 55, 56, 57, 32, 10])) (.call 294 0 [(.v 0), (.c (.int 14))]))) [.val (.ref n), .val (.int y), .val (.lst ((sizes z).map .int)), .non, .non] h2 = .ok (cs.map fun c => .str [c]) h4 := by
          rw [evL, bndH eI]
          exact e4
        refine ⟨cs, h4, finR (ρ' := [.val (.ref n), .val (.int y), .val (.lst ((sizes z).map .int)), .non, .non]) ((seqH_nx st1).trans ((seqH_nx st2).trans ((seqH_nx (noLt 2 _ c2)).trans ((seqH_nx (noLt 4 _ c4)).trans (seqH_ret ?_))))), by omega, s4.mono (by omega)⟩
        · rw [exH_t (h' := h2) (by simp only [execs_nil, execs_cons, nxt_nx, nxt_ret, fin_nx, fin_ret, exec, ev, evs, evL_L, ret_bd, pur_bd, fai_bd, thr_bd, pur_ret, opS, opN, bd_bd, ite_bd, opIf, gs0, gs1, gs2, gs3, gs4, gs5, gs6, gs7, gs8, gs9, gs10, ss0, ss1, ss2, ss3, ss4, ss5, ss6, ss7, ss8, ss9, ss10, setTg, setTgs, Option.bind_some, Option.map_some, Option.map_none, truth, truthD, cmpD, cmpP, eqD, binP, isiM, isiAny, isiD, b1M, b1P, b2P, ixM, ixP, mkC_call, mkC_dfl, mkC_glo, mkC_sup, List.map, List.replicate, List.cons_append, List.nil_append, List.append_nil, Nat.reduceSub, List.reduceReplicate, Int.reduceLT, Int.reduceLE, Int.reduceEq, if_true, if_false, Bool.or_false, Bool.or_true, Bool.false_eq_true, Bool.not_true, Bool.not_false, Bool.true_and, Bool.and_true, decide_eq_true_eq, c5, decide_true, retH])]
          refine seqH_ret (ex_retH ?_)
          simp only [execs_nil, execs_cons, nxt_nx, nxt_ret, fin_nx, fin_ret, exec, ev, evs, evL_L, ret_bd, pur_bd, fai_bd, thr_bd, pur_ret, opS, opN, bd_bd, ite_bd, opIf, gs0, gs1, gs2, gs3, gs4, gs5, gs6, gs7, gs8, gs9, gs10, ss0, ss1, ss2, ss3, ss4, ss5, ss6, ss7, ss8, ss9, ss10, setTg, setTgs, Option.bind_some, Option.map_some, Option.map_none, truth, truthD, cmpD, cmpP, eqD, binP, isiM, isiAny, isiD, b1M, b1P, b2P, ixM, ixP, mkC_call, mkC_dfl, mkC_glo, mkC_sup, List.map, List.replicate, List.cons_append, List.nil_append, List.append_nil, Nat.reduceSub, List.reduceReplicate, Int.reduceLT, Int.reduceLE, Int.reduceEq, if_true, if_false, Bool.or_false, Bool.or_true, Bool.false_eq_true, Bool.not_true, Bool.not_false, Bool.true_and, Bool.and_true, decide_eq_true_eq, smR]
          rw [bndH eL]
          simp only [execs_nil, execs_cons, nxt_nx, nxt_ret, fin_nx, fin_ret, exec, ev, evs, evL_L, ret_bd, pur_bd, fai_bd, thr_bd, pur_ret, opS, opN, bd_bd, ite_bd, opIf, gs0, gs1, gs2, gs3, gs4, gs5, gs6, gs7, gs8, gs9, gs10, ss0, ss1, ss2, ss3, ss4, ss5, ss6, ss7, ss8, ss9, ss10, setTg, setTgs, Option.bind_some, Option.map_some, Option.map_none, truth, truthD, cmpD, cmpP, eqD, binP, isiM, isiAny, isiD, b1M, b1P, b2P, ixM, ixP, mkC_call, mkC_dfl, mkC_glo, mkC_sup, List.map, List.replicate, List.cons_append, List.nil_append, List.append_nil, Nat.reduceSub, List.reduceReplicate, Int.reduceLT, Int.reduceLE, Int.reduceEq, if_true, if_false, Bool.or_false, Bool.or_true, Bool.false_eq_true, Bool.not_true, Bool.not_false, Bool.true_and, Bool.and_true, decide_eq_true_eq, j2, retH]
      · -- figures
        obtain ⟨w, h3, e3, l3, s3⟩ := fig_of W (sizes := sizes z) (by simp [sizes]) (by simp [sizes]) hsz (e := .v 2) (ρ := [.val (.ref n), .val (.int y), .val (.lst ((sizes z).map .int)), .non, .non]) gs0 (by simp only [execs_nil, execs_cons, nxt_nx, nxt_ret, fin_nx, fin_ret, exec, ev, evs, evL_L, ret_bd, pur_bd, fai_bd, thr_bd, pur_ret, opS, opN, bd_bd, ite_bd, opIf, gs0, gs1, gs2, gs3, gs4, gs5, gs6, gs7, gs8, gs9, gs10, ss0, ss1, ss2, ss3, ss4, ss5, ss6, ss7, ss8, ss9, ss10, setTg, setTgs, Option.bind_some, Option.map_some, Option.map_none, truth, truthD, cmpD, cmpP, eqD, binP, isiM, isiAny, isiD, b1M, b1P, b2P, ixM, ixP, mkC_call, mkC_dfl, mkC_glo, mkC_sup, List.map, List.replicate, List.cons_append, List.nil_append, List.append_nil, Nat.reduceSub, List.reduceReplicate, Int.reduceLT, Int.reduceLE, Int.reduceEq, if_true, if_false, Bool.or_false, Bool.or_true, Bool.false_eq_true, Bool.not_true, Bool.not_false, Bool.true_and, Bool.and_true, decide_eq_true_eq]) s2 (by omega)
        have st5 : exec C (.iff (.cmp .Eq (.v 1) (.c (.int 4))) [.ret (.sm .join (.c (.str [])) [(.fz (.Lc [3] (.n 3) (.Ir1 (.call 294 0 [(.v 0), (.c (.int 7))])) (.c (.bl true)) (.ix (.c (.str [45, 47, 48, 49, 50, 51, 52, 53, 54, 55, 56, 57, 32, 10])) (.call 294 0 [(.v 0), (.c (.int 14))]))))])] []) [.val (.ref n), .val (.int y), .val (.lst ((sizes z).map .int)), .non, .non] h2 = .ok (.nx, [.val (.ref n), .val (.int y), .val (.lst ((sizes z).map .int)), .non, .non]) h2 := by
          rw [exH_f (h' := h2) (by simp only [execs_nil, execs_cons, nxt_nx, nxt_ret, fin_nx, fin_ret, exec, ev, evs, evL_L, ret_bd, pur_bd, fai_bd, thr_bd, pur_ret, opS, opN, bd_bd, ite_bd, opIf, gs0, gs1, gs2, gs3, gs4, gs5, gs6, gs7, gs8, gs9, gs10, ss0, ss1, ss2, ss3, ss4, ss5, ss6, ss7, ss8, ss9, ss10, setTg, setTgs, Option.bind_some, Option.map_some, Option.map_none, truth, truthD, cmpD, cmpP, eqD, binP, isiM, isiAny, isiD, b1M, b1P, b2P, ixM, ixP, mkC_call, mkC_dfl, mkC_glo, mkC_sup, List.map, List.replicate, List.cons_append, List.nil_append, List.append_nil, Nat.reduceSub, List.reduceReplicate, Int.reduceLT, Int.reduceLE, Int.reduceEq, if_true, if_false, Bool.or_false, Bool.or_true, Bool.false_eq_true, Bool.not_true, Bool.not_false, Bool.true_and, Bool.and_true, decide_eq_true_eq, c5, decide_false, retH]), execs_nil, retH]
        have st6 : exec C (.set 4 (.call 146 0 [(.v 0), (.call 224 0 [(.v 0), (.v 2)])])) [.val (.ref n), .val (.int y), .val (.lst ((sizes z).map .int)), .non, .non] h2 = .ok (.nx, [.val (.ref n), .val (.int y), .val (.lst ((sizes z).map .int)), .non, .val (.str w)]) h3 := ex_setH e3 ss4
        have pre : ∀ ss r, execs C ss [.val (.ref n), .val (.int y), .val (.lst ((sizes z).map .int)), .non, .val (.str w)] h3 = r →
            execs C (.set 1 (.call 294 0 [(.v 0), (.c (.int 9))]) :: .set 2 (.fz (.L [(.c (.int 1)), (.c (.int 2)), (.c (.int 39)), (.c (.int 40)), (.c (.int 40)), (.c (.int 41)), (.c (.int 42)), (.bin .Add (.c (.int 1)) (.call 294 0 [(.v 0), (.c (.int 40))]))])) ::
            .iff (.cmp .Lt (.v 1) (.c (.int 2))) [.ret (.call 190 0 [(.v 0), (.call 154 0 [(.v 0)])])] [] :: .iff (.cmp .Lt (.v 1) (.c (.int 4))) [.ret (.call 114 0 [(.v 0), (.call 190 0 [(.v 0), (.call 154 0 [(.v 0)])])])] [] ::
            .iff (.cmp .Eq (.v 1) (.c (.int 4))) [.ret (.sm .join (.c (.str [])) [(.fz (.Lc [3] (.n 3) (.Ir1 (.call 294 0 [(.v 0), (.c (.int 7))])) (.c (.bl true)) (.ix (.c (.str [45, 47, 48, 49, 50, 51, 52, 53, 54, 55, 56, 57, 32, 10])) (.call 294 0 [(.v 0), (.c (.int 14))]))))])] [] ::
            .set 4 (.call 146 0 [(.v 0), (.call 224 0 [(.v 0), (.v 2)])]) :: ss) [.val (.ref n), .non, .non, .non, .non] h = r := fun ss r er =>
          (seqH_nx st1).trans ((seqH_nx st2).trans ((seqH_nx (noLt 2 _ c2)).trans ((seqH_nx (noLt 4 _ c4)).trans ((seqH_nx st5).trans ((seqH_nx st6).trans er)))))
        by_cases c6 : y = 5
        · obtain ⟨u, h4, e4, u0, u1, s4⟩ := T _ 2 h3 s3 (by omega) (small190 (by decide))
          have tt : exec C (.iff (.cmp .Eq (.v 1) (.c (.int 5))) [.ret (.ite (.cmp .Eq (.call 294 0 [(.v 0), (.c (.int 2))]) (.c (.int 0))) (.v 4) (.call 114 0 [(.v 0), (.v 4)]))] []) [.val (.ref n), .val (.int y), .val (.lst ((sizes z).map .int)), .non, .val (.str w)] h3 =
              exec C (.ret (.ite (.cmp .Eq (.call 294 0 [(.v 0), (.c (.int 2))]) (.c (.int 0))) (.v 4) (.call 114 0 [(.v 0), (.v 4)]))) [.val (.ref n), .val (.int y), .val (.lst ((sizes z).map .int)), .non, .val (.str w)] h3 := by
            rw [exH_t (h' := h3) (by simp only [execs_nil, execs_cons, nxt_nx, nxt_ret, fin_nx, fin_ret, exec, ev, evs, evL_L, ret_bd, pur_bd, fai_bd, thr_bd, pur_ret, opS, opN, bd_bd, ite_bd, opIf, gs0, gs1, gs2, gs3, gs4, gs5, gs6, gs7, gs8, gs9, gs10, ss0, ss1, ss2, ss3, ss4, ss5, ss6, ss7, ss8, ss9, ss10, setTg, setTgs, Option.bind_some, Option.map_some, Option.map_none, truth, truthD, cmpD, cmpP, eqD, binP, isiM, isiAny, isiD, b1M, b1P, b2P, ixM, ixP, mkC_call, mkC_dfl, mkC_glo, mkC_sup, List.map, List.replicate, List.cons_append, List.nil_append, List.append_nil, Nat.reduceSub, List.reduceReplicate, Int.reduceLT, Int.reduceLE, Int.reduceEq, if_true, if_false, Bool.or_false, Bool.or_true, Bool.false_eq_true, Bool.not_true, Bool.not_false, Bool.true_and, Bool.and_true, decide_eq_true_eq, c6, decide_true, retH])]
            simp only [execs_nil, execs_cons, nxt_nx, nxt_ret, fin_nx, fin_ret, exec, ev, evs, evL_L, ret_bd, pur_bd, fai_bd, thr_bd, pur_ret, opS, opN, bd_bd, ite_bd, opIf, gs0, gs1, gs2, gs3, gs4, gs5, gs6, gs7, gs8, gs9, gs10, ss0, ss1, ss2, ss3, ss4, ss5, ss6, ss7, ss8, ss9, ss10, setTg, setTgs, Option.bind_some, Option.map_some, Option.map_none, truth, truthD, cmpD, cmpP, eqD, binP, isiM, isiAny, isiD, b1M, b1P, b2P, ixM, ixP, mkC_call, mkC_dfl, mkC_glo, mkC_sup, List.map, List.replicate, List.cons_append, List.nil_append, List.append_nil, Nat.reduceSub, List.reduceReplicate, Int.reduceLT, Int.reduceLE, Int.reduceEq, if_true, if_false, Bool.or_false, Bool.or_true, Bool.false_eq_true, Bool.not_true, Bool.not_false, Bool.true_and, Bool.and_true, decide_eq_true_eq]
          by_cases q : u = 0
          · refine ⟨w, h4, finR (pre _ _ (seqH_ret (tt.trans (ex_retH ?_)))), by omega, s4.mono (by omega)⟩
            simp only [execs_nil, execs_cons, nxt_nx, nxt_ret, fin_nx, fin_ret, exec, ev, evs, evL_L, ret_bd, pur_bd, fai_bd, thr_bd, pur_ret, opS, opN, bd_bd, ite_bd, opIf, gs0, gs1, gs2, gs3, gs4, gs5, gs6, gs7, gs8, gs9, gs10, ss0, ss1, ss2, ss3, ss4, ss5, ss6, ss7, ss8, ss9, ss10, setTg, setTgs, Option.bind_some, Option.map_some, Option.map_none, truth, truthD, cmpD, cmpP, eqD, binP, isiM, isiAny, isiD, b1M, b1P, b2P, ixM, ixP, mkC_call, mkC_dfl, mkC_glo, mkC_sup, List.map, List.replicate, List.cons_append, List.nil_append, List.append_nil, Nat.reduceSub, List.reduceReplicate, Int.reduceLT, Int.reduceLE, Int.reduceEq, if_true, if_false, Bool.or_false, Bool.or_true, Bool.false_eq_true, Bool.not_true, Bool.not_false, Bool.true_and, Bool.and_true, decide_eq_true_eq, d1, bndH e4, q, decide_true, retH]
          · obtain ⟨w5, h5, e5, l5, s5⟩ := W.ch _ w h4 (by omega) s4 (by omega)
            refine ⟨w5, h5, finR (pre _ _ (seqH_ret (tt.trans (ex_retH ?_)))), by omega, s5.mono (by omega)⟩
            simp only [execs_nil, execs_cons, nxt_nx, nxt_ret, fin_nx, fin_ret, exec, ev, evs, evL_L, ret_bd, pur_bd, fai_bd, thr_bd, pur_ret, opS, opN, bd_bd, ite_bd, opIf, gs0, gs1, gs2, gs3, gs4, gs5, gs6, gs7, gs8, gs9, gs10, ss0, ss1, ss2, ss3, ss4, ss5, ss6, ss7, ss8, ss9, ss10, setTg, setTgs, Option.bind_some, Option.map_some, Option.map_none, truth, truthD, cmpD, cmpP, eqD, binP, isiM, isiAny, isiD, b1M, b1P, b2P, ixM, ixP, mkC_call, mkC_dfl, mkC_glo, mkC_sup, List.map, List.replicate, List.cons_append, List.nil_append, List.append_nil, Nat.reduceSub, List.reduceReplicate, Int.reduceLT, Int.reduceLE, Int.reduceEq, if_true, if_false, Bool.or_false, Bool.or_true, Bool.false_eq_true, Bool.not_true, Bool.not_false, Bool.true_and, Bool.and_true, decide_eq_true_eq, d1, d4, bndH e4, q, decide_false, e5]
        · have st7 : exec C (.iff (.cmp .Eq (.v 1) (.c (.int 5))) [.ret (.ite (.cmp .Eq (.call 294 0 [(.v 0), (.c (.int 2))]) (.c (.int 0))) (.v 4) (.call 114 0 [(.v 0), (.v 4)]))] []) [.val (.ref n), .val (.int y), .val (.lst ((sizes z).map .int)), .non, .val (.str w)] h3 =
              .ok (.nx, [.val (.ref n), .val (.int y), .val (.lst ((sizes z).map .int)), .non, .val (.str w)]) h3 := by
            rw [exH_f (h' := h3) (by simp only [execs_nil, execs_cons, nxt_nx, nxt_ret, fin_nx, fin_ret, exec, ev, evs, evL_L, ret_bd, pur_bd, fai_bd, thr_bd, pur_ret, opS, opN, bd_bd, ite_bd, opIf, gs0, gs1, gs2, gs3, gs4, gs5, gs6, gs7, gs8, gs9, gs10, ss0, ss1, ss2, ss3, ss4, ss5, ss6, ss7, ss8, ss9, ss10, setTg, setTgs, Option.bind_some, Option.map_some, Option.map_none, truth, truthD, cmpD, cmpP, eqD, binP, isiM, isiAny, isiD, b1M, b1P, b2P, ixM, ixP, mkC_call, mkC_dfl, mkC_glo, mkC_sup, List.map, List.replicate, List.cons_append, List.nil_append, List.append_nil, Nat.reduceSub, List.reduceReplicate, Int.reduceLT, Int.reduceLE, Int.reduceEq, if_true, if_false, Bool.or_false, Bool.or_true, Bool.false_eq_true, Bool.not_true, Bool.not_false, Bool.true_and, Bool.and_true, decide_eq_true_eq, c6, decide_false, retH]), execs_nil, retH]
          -- the last: two rows of figures
          have tail : ∀ (h5 : Hs) (B5 : Nat), Sto n B5 h5 → B5 ≤ B + 80 → ∃ w' h', ev C (.bin .Add (.bin .Add (.v 4) (.c (.str [47]))) (.call 146 0 [(.v 0), (.call 224 0 [(.v 0), (.v 2)])])) [.val (.ref n), .val (.int y), .val (.lst ((sizes z).map .int)), .non, .val (.str w)] h5 = .ok (.str w') h' ∧ w'.length ≤ 40000 ∧ Sto n (B + 300) h' := fun h5 B5 s5 hB5 => by
            obtain ⟨w6, h6, e6, l6, s6⟩ := fig_of W (sizes := sizes z) (by simp [sizes]) (by simp [sizes]) hsz (e := .v 2) (ρ := [.val (.ref n), .val (.int y), .val (.lst ((sizes z).map .int)), .non, .val (.str w)]) gs0 (by simp only [execs_nil, execs_cons, nxt_nx, nxt_ret, fin_nx, fin_ret, exec, ev, evs, evL_L, ret_bd, pur_bd, fai_bd, thr_bd, pur_ret, opS, opN, bd_bd, ite_bd, opIf, gs0, gs1, gs2, gs3, gs4, gs5, gs6, gs7, gs8, gs9, gs10, ss0, ss1, ss2, ss3, ss4, ss5, ss6, ss7, ss8, ss9, ss10, setTg, setTgs, Option.bind_some, Option.map_some, Option.map_none, truth, truthD, cmpD, cmpP, eqD, binP, isiM, isiAny, isiD, b1M, b1P, b2P, ixM, ixP, mkC_call, mkC_dfl, mkC_glo, mkC_sup, List.map, List.replicate, List.cons_append, List.nil_append, List.append_nil, Nat.reduceSub, List.reduceReplicate, Int.reduceLT, Int.reduceLE, Int.reduceEq, if_true, if_false, Bool.or_false, Bool.or_true, Bool.false_eq_true, Bool.not_true, Bool.not_false, Bool.true_and, Bool.and_true, decide_eq_true_eq]) s5 (by omega)
            have a1 : w.length + ([47] : List Nat).length ≤ line := by rw [hline, List.length_singleton]; omega
            have a2 : (w ++ [47]).length + w6.length ≤ line := by rw [hline, List.length_append, List.length_singleton]; omega
            refine ⟨w ++ [47] ++ w6, h6, ?_, by rw [List.length_append, List.length_append, List.length_singleton]; omega, s6.mono (by omega)⟩
            rw [ev]
            have el : ev C (.bin .Add (.v 4) (.c (.str [47]))) [.val (.ref n), .val (.int y), .val (.lst ((sizes z).map .int)), .non, .val (.str w)] = M.ret (.str (w ++ [47])) := by simp only [execs_nil, execs_cons, nxt_nx, nxt_ret, fin_nx, fin_ret, exec, ev, evs, evL_L, ret_bd, pur_bd, fai_bd, thr_bd, pur_ret, opS, opN, bd_bd, ite_bd, opIf, gs0, gs1, gs2, gs3, gs4, gs5, gs6, gs7, gs8, gs9, gs10, ss0, ss1, ss2, ss3, ss4, ss5, ss6, ss7, ss8, ss9, ss10, setTg, setTgs, Option.bind_some, Option.map_some, Option.map_none, truth, truthD, cmpD, cmpP, eqD, binP, isiM, isiAny, isiD, b1M, b1P, b2P, ixM, ixP, mkC_call, mkC_dfl, mkC_glo, mkC_sup, List.map, List.replicate, List.cons_append, List.nil_append, List.append_nil, Nat.reduceSub, List.reduceReplicate, Int.reduceLT, Int.reduceLE, Int.reduceEq, if_true, if_false, Bool.or_false, Bool.or_true, Bool.false_eq_true, Bool.not_true, Bool.not_false, Bool.true_and, Bool.and_true, decide_eq_true_eq, a1]
            rw [el, ret_bd, bndH e6]
            simp only [execs_nil, execs_cons, nxt_nx, nxt_ret, fin_nx, fin_ret, exec, ev, evs, evL_L, ret_bd, pur_bd, fai_bd, thr_bd, pur_ret, opS, opN, bd_bd, ite_bd, opIf, gs0, gs1, gs2, gs3, gs4, gs5, gs6, gs7, gs8, gs9, gs10, ss0, ss1, ss2, ss3, ss4, ss5, ss6, ss7, ss8, ss9, ss10, setTg, setTgs, Option.bind_some, Option.map_some, Option.map_none, truth, truthD, cmpD, cmpP, eqD, binP, isiM, isiAny, isiD, b1M, b1P, b2P, ixM, ixP, mkC_call, mkC_dfl, mkC_glo, mkC_sup, List.map, List.replicate, List.cons_append, List.nil_append, List.append_nil, Nat.reduceSub, List.reduceReplicate, Int.reduceLT, Int.reduceLE, Int.reduceEq, if_true, if_false, Bool.or_false, Bool.or_true, Bool.false_eq_true, Bool.not_true, Bool.not_false, Bool.true_and, Bool.and_true, decide_eq_true_eq, a2, retH]
          by_cases c7 : y = 6
          · obtain ⟨u, h4, e4, u0, u1, s4⟩ := T _ 8 h3 s3 (by omega) (small190 (by decide))
            by_cases q : u = 0
            · -- a great many
              obtain ⟨w5, h5, e5, l5, s5⟩ := fig_of W (sizes := [4300, 4301, 6000]) (by simp) (by simp) (by intro x hx; simp only [List.mem_cons, List.not_mem_nil, or_false] at hx; rcases hx with rfl | rfl | rfl <;> omega) (e := .fz (.L [(.c (.int 4300)), (.c (.int 4301)), (.c (.int 6000))])) (ρ := [.val (.ref n), .val (.int y), .val (.lst ((sizes z).map .int)), .non, .val (.str w)]) gs0 (by
                have l3 : (3 : Nat) ≤ line := by rw [hline]; decide
                simp only [execs_nil, execs_cons, nxt_nx, nxt_ret, fin_nx, fin_ret, exec, ev, evs, evL_L, ret_bd, pur_bd, fai_bd, thr_bd, pur_ret, opS, opN, bd_bd, ite_bd, opIf, gs0, gs1, gs2, gs3, gs4, gs5, gs6, gs7, gs8, gs9, gs10, ss0, ss1, ss2, ss3, ss4, ss5, ss6, ss7, ss8, ss9, ss10, setTg, setTgs, Option.bind_some, Option.map_some, Option.map_none, truth, truthD, cmpD, cmpP, eqD, binP, isiM, isiAny, isiD, b1M, b1P, b2P, ixM, ixP, mkC_call, mkC_dfl, mkC_glo, mkC_sup, List.map, List.replicate, List.cons_append, List.nil_append, List.append_nil, Nat.reduceSub, List.reduceReplicate, Int.reduceLT, Int.reduceLE, Int.reduceEq, if_true, if_false, Bool.or_false, Bool.or_true, Bool.false_eq_true, Bool.not_true, Bool.not_false, Bool.true_and, Bool.and_true, decide_eq_true_eq, List.length_cons, List.length_nil, Nat.zero_add, Nat.reduceAdd, l3]) s4 (by omega)
              have a1 : w5.length + ([47, 51] : List Nat).length ≤ line := by rw [hline]; simp; omega
              have a2 : ([51, 47] : List Nat).length + w5.length ≤ line := by rw [hline]; simp; omega
              obtain ⟨d, h6, e6, hd, s6⟩ := W.pk _ [.str w5, .str (w5 ++ [47, 51]), .str ([51, 47] ++ w5)] h5 (by simp) (by simp) s5 (by omega)
              have key : ∃ w6 : List Nat, d = .str w6 ∧ w6.length ≤ 40000 := by
                simp only [List.mem_cons, List.not_mem_nil, or_false] at hd
                rcases hd with rfl | rfl | rfl
                · exact ⟨_, rfl, by omega⟩
                · exact ⟨_, rfl, by rw [List.length_append]; simp; omega⟩
                · exact ⟨_, rfl, by rw [List.length_append]; simp; omega⟩
              obtain ⟨w6, rfl, l6⟩ := key
              refine ⟨w6, h6, finR (ρ' := [.val (.ref n), .val (.int y), .val (.lst ((sizes z).map .int)), .non, .val (.str w5)]) (pre _ _ ((seqH_nx st7).trans (seqH_ret ?_))), l6, s6.mono (by omega)⟩
              · rw [exH_t (h' := h4) (by simp only [execs_nil, execs_cons, nxt_nx, nxt_ret, fin_nx, fin_ret, exec, ev, evs, evL_L, ret_bd, pur_bd, fai_bd, thr_bd, pur_ret, opS, opN, bd_bd, ite_bd, opIf, gs0, gs1, gs2, gs3, gs4, gs5, gs6, gs7, gs8, gs9, gs10, ss0, ss1, ss2, ss3, ss4, ss5, ss6, ss7, ss8, ss9, ss10, setTg, setTgs, Option.bind_some, Option.map_some, Option.map_none, truth, truthD, cmpD, cmpP, eqD, binP, isiM, isiAny, isiD, b1M, b1P, b2P, ixM, ixP, mkC_call, mkC_dfl, mkC_glo, mkC_sup, List.map, List.replicate, List.cons_append, List.nil_append, List.append_nil, Nat.reduceSub, List.reduceReplicate, Int.reduceLT, Int.reduceLE, Int.reduceEq, if_true, if_false, Bool.or_false, Bool.or_true, Bool.false_eq_true, Bool.not_true, Bool.not_false, Bool.true_and, Bool.and_true, decide_eq_true_eq, c7, d1, bndH e4, q, decide_true, retH]), seqH_nx (ex_setH e5 ss4)]
                refine seqH_ret (ex_retH ?_)
                have l3 : (3 : Nat) ≤ line := by rw [hline]; decide
                have e6' : C.call 224 [.ref n, .lst [.str w5, .str (w5 ++ [47, 51]), .str (51 :: 47 :: w5)]] h5 = .ok (.str w6) h6 := e6
                have a3 : w5.length + 2 ≤ line := by rw [hline]; omega
                have a4 : 2 + w5.length ≤ line := by rw [hline]; omega
                simp only [execs_nil, execs_cons, nxt_nx, nxt_ret, fin_nx, fin_ret, exec, ev, evs, evL_L, ret_bd, pur_bd, fai_bd, thr_bd, pur_ret, opS, opN, bd_bd, ite_bd, opIf, gs0, gs1, gs2, gs3, gs4, gs5, gs6, gs7, gs8, gs9, gs10, ss0, ss1, ss2, ss3, ss4, ss5, ss6, ss7, ss8, ss9, ss10, setTg, setTgs, Option.bind_some, Option.map_some, Option.map_none, truth, truthD, cmpD, cmpP, eqD, binP, isiM, isiAny, isiD, b1M, b1P, b2P, ixM, ixP, mkC_call, mkC_dfl, mkC_glo, mkC_sup, List.map, List.replicate, List.cons_append, List.nil_append, List.append_nil, Nat.reduceSub, List.reduceReplicate, Int.reduceLT, Int.reduceLE, Int.reduceEq, if_true, if_false, Bool.or_false, Bool.or_true, Bool.false_eq_true, Bool.not_true, Bool.not_false, Bool.true_and, Bool.and_true, decide_eq_true_eq, a3, a4, List.length_cons, List.length_nil, Nat.zero_add, Nat.reduceAdd, l3, d6, e6']
            · obtain ⟨w', h', e', l', s'⟩ := tail h4 _ s4 (by omega)
              refine ⟨w', h', finR (pre _ _ ((seqH_nx st7).trans ((seqH_nx (ρ' := [.val (.ref n), .val (.int y), .val (.lst ((sizes z).map .int)), .non, .val (.str w)]) (h' := h4) ?_).trans (seqH_ret (ex_retH e'))))), l', s'⟩
              rw [exH_f (h' := h4) (by simp only [execs_nil, execs_cons, nxt_nx, nxt_ret, fin_nx, fin_ret, exec, ev, evs, evL_L, ret_bd, pur_bd, fai_bd, thr_bd, pur_ret, opS, opN, bd_bd, ite_bd, opIf, gs0, gs1, gs2, gs3, gs4, gs5, gs6, gs7, gs8, gs9, gs10, ss0, ss1, ss2, ss3, ss4, ss5, ss6, ss7, ss8, ss9, ss10, setTg, setTgs, Option.bind_some, Option.map_some, Option.map_none, truth, truthD, cmpD, cmpP, eqD, binP, isiM, isiAny, isiD, b1M, b1P, b2P, ixM, ixP, mkC_call, mkC_dfl, mkC_glo, mkC_sup, List.map, List.replicate, List.cons_append, List.nil_append, List.append_nil, Nat.reduceSub, List.reduceReplicate, Int.reduceLT, Int.reduceLE, Int.reduceEq, if_true, if_false, Bool.or_false, Bool.or_true, Bool.false_eq_true, Bool.not_true, Bool.not_false, Bool.true_and, Bool.and_true, decide_eq_true_eq, c7, d1, bndH e4, q, decide_true, decide_false, retH]), execs_nil, retH]
          · obtain ⟨w', h', e', l', s'⟩ := tail h3 _ s3 (by omega)
            refine ⟨w', h', finR (pre _ _ ((seqH_nx st7).trans ((seqH_nx (ρ' := [.val (.ref n), .val (.int y), .val (.lst ((sizes z).map .int)), .non, .val (.str w)]) (h' := h3) ?_).trans (seqH_ret (ex_retH e'))))), l', s'⟩
            rw [exH_f (h' := h3) (by simp only [execs_nil, execs_cons, nxt_nx, nxt_ret, fin_nx, fin_ret, exec, ev, evs, evL_L, ret_bd, pur_bd, fai_bd, thr_bd, pur_ret, opS, opN, bd_bd, ite_bd, opIf, gs0, gs1, gs2, gs3, gs4, gs5, gs6, gs7, gs8, gs9, gs10, ss0, ss1, ss2, ss3, ss4, ss5, ss6, ss7, ss8, ss9, ss10, setTg, setTgs, Option.bind_some, Option.map_some, Option.map_none, truth, truthD, cmpD, cmpP, eqD, binP, isiM, isiAny, isiD, b1M, b1P, b2P, ixM, ixP, mkC_call, mkC_dfl, mkC_glo, mkC_sup, List.map, List.replicate, List.cons_append, List.nil_append, List.append_nil, Nat.reduceSub, List.reduceReplicate, Int.reduceLT, Int.reduceLE, Int.reduceEq, if_true, if_false, Bool.or_false, Bool.or_true, Bool.false_eq_true, Bool.not_true, Bool.not_false, Bool.true_and, Bool.and_true, decide_eq_true_eq, c7, decide_false, retH]), execs_nil, retH]
end PL.k71
end
section
set_option Elab.async false
set_option linter.all false
set_option maxRecDepth 100000
/-! K71D4: what is refused. -/
namespace PL.k71
open PySem PL
open SX _root_.TL
/-- no fraction -/
def NF (d : D) : Prop := ∀ k, callF pg (k + 2) 433 [d] = M.ret (.bl false)
theorem nf_kind {d : D} (h : isiD pg.sup .tuple d = some false) : NF d := fun k => fr0 k d h
theorem nf_len {ds : List D} (h : ds.length ≠ 2) : NF (.tup ds) := fun k => by
  rw [callS (d := ⟨1, 3, ir433⟩) rfl rfl]
  generalize mkC pg (callF pg (k + 1)) = C
  show execs C ir433 [.val (.tup ds), .non, .non] >>= fin = _
  unfold ir433
  have h2 : ¬ ((ds.length : Int) = 2) := by omega
  rw [seq_ret (d := .bl false) (ρ' := [.val (.tup ds), .non, .non]) (by
    have e : eqD (.int ds.length) (.int 2) = some (decide ((ds.length : Int) = 2)) := rfl
    simp only [execs_nil, execs_cons, nxt_nx, nxt_ret, fin_nx, fin_ret, exec, ev, evs, evL_L, ret_bd, pur_bd, fai_bd, thr_bd, pur_ret, opS, opN, bd_bd, ite_bd, opIf, gs0, gs1, gs2, gs3, gs4, gs5, gs6, gs7, gs8, gs9, gs10, ss0, ss1, ss2, ss3, ss4, ss5, ss6, ss7, ss8, ss9, ss10, setTg, setTgs, Option.bind_some, Option.map_some, Option.map_none, truth, truthD, cmpD, cmpP, eqD, binP, isiM, isiAny, isiD, b1M, b1P, b2P, ixM, ixP, mkC_call, mkC_dfl, mkC_glo, mkC_sup, List.map, List.replicate, List.cons_append, List.nil_append, List.append_nil, Nat.reduceSub, List.reduceReplicate, Int.reduceLT, Int.reduceLE, Int.reduceEq, if_true, if_false, Bool.or_false, Bool.or_true, Bool.false_eq_true, Bool.not_true, Bool.not_false, Bool.true_and, Bool.and_true, decide_eq_true_eq, h2, decide_false])]
  rfl
theorem nf_pair {x y : D} {a b : Bool} (hx : ∀ k, callF pg (k + 1) 528 [x] = M.ret (.bl a)) (hy : ∀ k, callF pg (k + 1) 528 [y] = M.ret (.bl b)) (h : (a && b) = false) : NF (.tup [x, y]) := fun k => by
  rw [callS (d := ⟨1, 3, ir433⟩) rfl rfl]
  have d1 : (mkC pg (callF pg (k + 1))).dfl 528 0 = [] := rfl
  have hx : (mkC pg (callF pg (k + 1))).call 528 [x] = M.ret (.bl a) := hx k
  have hy : (mkC pg (callF pg (k + 1))).call 528 [y] = M.ret (.bl b) := hy k
  generalize mkC pg (callF pg (k + 1)) = C at d1 hx hy ⊢
  show execs C ir433 [.val (.tup [x, y]), .non, .non] >>= fin = _
  unfold ir433
  rw [seq_nx (ρ' := [.val (.tup [x, y]), .non, .non]) (by simp only [execs_nil, execs_cons, nxt_nx, nxt_ret, fin_nx, fin_ret, exec, ev, evs, evL_L, ret_bd, pur_bd, fai_bd, thr_bd, pur_ret, opS, opN, bd_bd, ite_bd, opIf, gs0, gs1, gs2, gs3, gs4, gs5, gs6, gs7, gs8, gs9, gs10, ss0, ss1, ss2, ss3, ss4, ss5, ss6, ss7, ss8, ss9, ss10, setTg, setTgs, Option.bind_some, Option.map_some, Option.map_none, truth, truthD, cmpD, cmpP, eqD, binP, isiM, isiAny, isiD, b1M, b1P, b2P, ixM, ixP, mkC_call, mkC_dfl, mkC_glo, mkC_sup, List.map, List.replicate, List.cons_append, List.nil_append, List.append_nil, Nat.reduceSub, List.reduceReplicate, Int.reduceLT, Int.reduceLE, Int.reduceEq, if_true, if_false, Bool.or_false, Bool.or_true, Bool.false_eq_true, Bool.not_true, Bool.not_false, Bool.true_and, Bool.and_true, decide_eq_true_eq, len2, decide_true]), seq_nx (ρ' := [.val (.tup [x, y]), .val x, .val y]) (by simp only [execs_nil, execs_cons, nxt_nx, nxt_ret, fin_nx, fin_ret, exec, ev, evs, evL_L, ret_bd, pur_bd, fai_bd, thr_bd, pur_ret, opS, opN, bd_bd, ite_bd, opIf, gs0, gs1, gs2, gs3, gs4, gs5, gs6, gs7, gs8, gs9, gs10, ss0, ss1, ss2, ss3, ss4, ss5, ss6, ss7, ss8, ss9, ss10, setTg, setTgs, Option.bind_some, Option.map_some, Option.map_none, truth, truthD, cmpD, cmpP, eqD, binP, isiM, isiAny, isiD, b1M, b1P, b2P, ixM, ixP, mkC_call, mkC_dfl, mkC_glo, mkC_sup, List.map, List.replicate, List.cons_append, List.nil_append, List.append_nil, Nat.reduceSub, List.reduceReplicate, Int.reduceLT, Int.reduceLE, Int.reduceEq, if_true, if_false, Bool.or_false, Bool.or_true, Bool.false_eq_true, Bool.not_true, Bool.not_false, Bool.true_and, Bool.and_true, decide_eq_true_eq]),
    seq_ret (d := .bl false) (ρ' := [.val (.tup [x, y]), .val x, .val y]) (by
      cases a with
      | false => simp only [execs_nil, execs_cons, nxt_nx, nxt_ret, fin_nx, fin_ret, exec, ev, evs, evL_L, ret_bd, pur_bd, fai_bd, thr_bd, pur_ret, opS, opN, bd_bd, ite_bd, opIf, gs0, gs1, gs2, gs3, gs4, gs5, gs6, gs7, gs8, gs9, gs10, ss0, ss1, ss2, ss3, ss4, ss5, ss6, ss7, ss8, ss9, ss10, setTg, setTgs, Option.bind_some, Option.map_some, Option.map_none, truth, truthD, cmpD, cmpP, eqD, binP, isiM, isiAny, isiD, b1M, b1P, b2P, ixM, ixP, mkC_call, mkC_dfl, mkC_glo, mkC_sup, List.map, List.replicate, List.cons_append, List.nil_append, List.append_nil, Nat.reduceSub, List.reduceReplicate, Int.reduceLT, Int.reduceLE, Int.reduceEq, if_true, if_false, Bool.or_false, Bool.or_true, Bool.false_eq_true, Bool.not_true, Bool.not_false, Bool.true_and, Bool.and_true, decide_eq_true_eq, d1, hx]
      | true =>
        have : b = false := by simpa using h
        subst this
        simp only [execs_nil, execs_cons, nxt_nx, nxt_ret, fin_nx, fin_ret, exec, ev, evs, evL_L, ret_bd, pur_bd, fai_bd, thr_bd, pur_ret, opS, opN, bd_bd, ite_bd, opIf, gs0, gs1, gs2, gs3, gs4, gs5, gs6, gs7, gs8, gs9, gs10, ss0, ss1, ss2, ss3, ss4, ss5, ss6, ss7, ss8, ss9, ss10, setTg, setTgs, Option.bind_some, Option.map_some, Option.map_none, truth, truthD, cmpD, cmpP, eqD, binP, isiM, isiAny, isiD, b1M, b1P, b2P, ixM, ixP, mkC_call, mkC_dfl, mkC_glo, mkC_sup, List.map, List.replicate, List.cons_append, List.nil_append, List.append_nil, Nat.reduceSub, List.reduceReplicate, Int.reduceLT, Int.reduceLE, Int.reduceEq, if_true, if_false, Bool.or_false, Bool.or_true, Bool.false_eq_true, Bool.not_true, Bool.not_false, Bool.true_and, Bool.and_true, decide_eq_true_eq, d1, hx, hy])]
  rfl
theorem nf_int {a b : Int} (h : isF a b = false) : NF (.tup [.int a, .int b]) := fun k => by rw [fr1, h]
theorem evL_cat {C : Cfg} {a b : Ex} {ρ : PL.Env} : evL C (.Lcat a b) ρ = (do let x ← ev C a ρ; let y ← ev C b ρ; let xs ← listM x; let ys ← listM y; if xs.length + ys.length ≤ line then pure (xs ++ ys) else M.fail) := by rw [evL]
def bad1 : List D := [fr 2 4, fr 0 2, fr 0 0, fr 1 0, fr 1 (-2), fr 0 (-1), .tup [.bl true, .int 1], .tup [.bl false, .int 1], .tup [.int 1, .bl true], .tup [.bl true, .int 2], .tup [.int 1, .non]]
def bad2 : List D := [.tup [.str [49], .int 2], .lst [.int 1, .int 2], .tup [], .tup [.int 1], .tup [.int 1, .int 2, .int 1], .lst [fr 1 2]]
def bad3 : List D := [.int 0, .int 1, .bl true, .bl false, .non, .str [49, 47, 50], .str [], .dk [] []]
theorem wI (i : Int) : ∀ k, callF pg (k + 1) 528 [.int i] = M.ret (.bl true) := fun k => w1 k i
theorem wB (i : Bool) : ∀ k, callF pg (k + 1) 528 [.bl i] = M.ret (.bl false) := fun k => w2 k i
theorem wS (i : List Nat) : ∀ k, callF pg (k + 1) 528 [.str i] = M.ret (.bl false) := fun k => w3 k i
theorem wN : ∀ k, callF pg (k + 1) 528 [.non] = M.ret (.bl false) := fun k => w4 k
theorem wT (i : List D) : ∀ k, callF pg (k + 1) 528 [.tup i] = M.ret (.bl false) := fun k => w5 k i
theorem bad_all : ∀ d ∈ (bad1 ++ bad2) ++ bad3, NF d := by
  intro d hd
  simp only [bad1, bad2, bad3, List.cons_append, List.nil_append, List.mem_cons, List.not_mem_nil, or_false] at hd
  rcases hd with rfl | rfl | rfl | rfl | rfl | rfl | rfl | rfl | rfl | rfl | rfl | rfl | rfl | rfl | rfl | rfl | rfl | rfl | rfl | rfl | rfl | rfl | rfl | rfl | rfl
  · exact nf_int (by decide)
  · exact nf_int (by decide)
  · exact nf_int (by decide)
  · exact nf_int (by decide)
  · exact nf_int (by decide)
  · exact nf_int (by decide)
  · exact nf_pair (wB _) (wI _) rfl
  · exact nf_pair (wB _) (wI _) rfl
  · exact nf_pair (wI _) (wB _) rfl
  · exact nf_pair (wB _) (wI _) rfl
  · exact nf_pair (wI _) wN rfl
  · exact nf_pair (wS _) (wI _) rfl
  · exact nf_kind rfl
  · exact nf_len (by decide)
  · exact nf_len (by decide)
  · exact nf_len (by decide)
  · exact nf_kind rfl
  · exact nf_kind rfl
  · exact nf_kind rfl
  · exact nf_kind rfl
  · exact nf_kind rfl
  · exact nf_kind rfl
  · exact nf_kind rfl
  · exact nf_kind rfl
  · exact nf_kind rfl
def bent (a b m : Int) : List D := [.lst [.int a, .int b], .tup [.int (a * m), .int (b * m)], .tup [.int (-a), .int (-b)], .tup [.int a], .tup [.int a, .int b, .int 1], .tup [fr a b, fr a b], .tup [.int a, .int 0]]
theorem bent_all {a b m : Int} (h : isF a b = true) (hm : 2 ≤ m) : ∀ d ∈ bent a b m, NF d := by
  intro d hd
  obtain ⟨h1, h2⟩ := isF_iff.mp h
  simp only [bent, List.mem_cons, List.not_mem_nil, or_false] at hd
  rcases hd with rfl | rfl | rfl | rfl | rfl | rfl | rfl
  · exact nf_kind rfl
  · refine nf_int ?_
    rw [Bool.eq_false_iff]
    intro z
    have := (isF_iff.mp z).2
    rw [Int.gcd_mul_right, h2, Nat.one_mul] at this
    omega
  · refine nf_int ?_
    rw [Bool.eq_false_iff]
    intro z
    have := (isF_iff.mp z).1
    omega
  · exact nf_len (by simp)
  · exact nf_len (by simp)
  · exact nf_pair (wT _) (wT _) rfl
  · refine nf_int ?_
    rw [Bool.eq_false_iff]
    intro z
    have := (isF_iff.mp z).1
    omega
/-- _law_bad_frac -/
theorem bf_1 (k n B : Nat) (h : Hs) (hs : Sto n B h) (hB : B + 10 ≤ 2 ^ 60) : ∃ d h', callF pg (k + 4) 89 [.ref n] h = .ok d h' ∧ NF d ∧ Sto n (B + 10) h' := by
  rw [callS (k := k + 3) (d := ⟨1, 5, ir89⟩) rfl rfl]
  have T : TkC (mkC pg (callF pg (k + 3))) n := tkC (k + 1) n
  have d1 : (mkC pg (callF pg (k + 3))).dfl 294 0 = [] := rfl
  have d2 : (mkC pg (callF pg (k + 3))).dfl 153 0 = [] := rfl
  have d3 : (mkC pg (callF pg (k + 3))).dfl 224 0 = [] := rfl
  have hf : ∀ B h, Sto n B h → B + 3 ≤ 2 ^ 60 → ∃ d h', (mkC pg (callF pg (k + 3))).call 153 [.ref n] h = .ok d h' ∧ FrD d ∧ Sto n (B + 3) h' := fun B h a b => fr_1 k n B h a b
  have hp : ∀ B ds h, ds ≠ [] → ds.length < 2 ^ 100 → Sto n B h → B + 1 ≤ 2 ^ 60 → ∃ d h', (mkC pg (callF pg (k + 3))).call 224 [.ref n, .lst ds] h = .ok d h' ∧ d ∈ ds ∧ Sto n (B + 1) h' := fun B ds h h0 hl hs hB => pk1 k n B ds h hs hB h0 hl
  generalize mkC pg (callF pg (k + 3)) = C at T d1 d2 d3 hf hp ⊢
  show ∃ z h', (execs C ir89 [.val (.ref n), .non, .non, .non, .non] >>= fin) h = _ ∧ _
  obtain ⟨y, h1, e1, y0, y1, s1⟩ := T B 3 h hs (by omega) (small190 (by decide))
  have ln : ∀ j : Nat, j ≤ 100 → j ≤ line := fun j hj => by rw [hline]; omega
  unfold ir89
  by_cases q : y = 0
  · obtain ⟨d, h2, e2, ⟨a, b, rfl, F, fa, fb⟩, s2⟩ := hf _ h1 s1 (by omega)
    obtain ⟨z, h3, e3, z0, z1, s3⟩ := T _ 3 h2 s2 (by omega) (small190 (by decide))
    obtain ⟨x, h4, e4, hx, s4⟩ := hp _ (bent a b (2 + z)) h3 (by simp [bent]) (by simp [bent]) s3 (by omega)
    refine ⟨x, h4, finR (ρ' := [.val (.ref n), .val (fr a b), .val (.int (2 + z)), .val (.lst ((bent a b (2 + z)).take 3)), .non]) (seqH_ret ?_), bent_all F (by omega) x hx, s4.mono (by omega)⟩
    rw [exH_t (h' := h1) (by simp only [execs_nil, execs_cons, nxt_nx, nxt_ret, fin_nx, fin_ret, exec, ev, evs, evL_L, ret_bd, pur_bd, fai_bd, thr_bd, pur_ret, opS, opN, bd_bd, ite_bd, opIf, gs0, gs1, gs2, gs3, gs4, gs5, gs6, gs7, gs8, gs9, gs10, ss0, ss1, ss2, ss3, ss4, ss5, ss6, ss7, ss8, ss9, ss10, setTg, setTgs, Option.bind_some, Option.map_some, Option.map_none, truth, truthD, cmpD, cmpP, eqD, binP, isiM, isiAny, isiD, b1M, b1P, b2P, ixM, ixP, mkC_call, mkC_dfl, mkC_glo, mkC_sup, List.map, List.replicate, List.cons_append, List.nil_append, List.append_nil, Nat.reduceSub, List.reduceReplicate, Int.reduceLT, Int.reduceLE, Int.reduceEq, if_true, if_false, Bool.or_false, Bool.or_true, Bool.false_eq_true, Bool.not_true, Bool.not_false, Bool.true_and, Bool.and_true, decide_eq_true_eq, d1, bndH e1, q, decide_true, retH])]
    have m1 : mulOk a (2 + z) = true := mk_of (Nat.lt_trans fa (Nat.lt_trans N40_lt (by decide +kernel))) (p31 ⟨by omega, by omega⟩)
    have m2 : mulOk b (2 + z) = true := mk_of (Nat.lt_trans fb (Nat.lt_trans N40_lt (by decide +kernel))) (p31 ⟨by omega, by omega⟩)
    rw [seqH_nx (ex_setH (i := 1) (d := fr a b) (ρ' := [.val (.ref n), .val (fr a b), .non, .non, .non]) (h' := h2) (by simp only [execs_nil, execs_cons, nxt_nx, nxt_ret, fin_nx, fin_ret, exec, ev, evs, evL_L, ret_bd, pur_bd, fai_bd, thr_bd, pur_ret, opS, opN, bd_bd, ite_bd, opIf, gs0, gs1, gs2, gs3, gs4, gs5, gs6, gs7, gs8, gs9, gs10, ss0, ss1, ss2, ss3, ss4, ss5, ss6, ss7, ss8, ss9, ss10, setTg, setTgs, Option.bind_some, Option.map_some, Option.map_none, truth, truthD, cmpD, cmpP, eqD, binP, isiM, isiAny, isiD, b1M, b1P, b2P, ixM, ixP, mkC_call, mkC_dfl, mkC_glo, mkC_sup, List.map, List.replicate, List.cons_append, List.nil_append, List.append_nil, Nat.reduceSub, List.reduceReplicate, Int.reduceLT, Int.reduceLE, Int.reduceEq, if_true, if_false, Bool.or_false, Bool.or_true, Bool.false_eq_true, Bool.not_true, Bool.not_false, Bool.true_and, Bool.and_true, decide_eq_true_eq, d2, e2]) ss1),
      seqH_nx (ex_setH (i := 2) (d := .int (2 + z)) (ρ' := [.val (.ref n), .val (fr a b), .val (.int (2 + z)), .non, .non]) (h' := h3) (by simp only [execs_nil, execs_cons, nxt_nx, nxt_ret, fin_nx, fin_ret, exec, ev, evs, evL_L, ret_bd, pur_bd, fai_bd, thr_bd, pur_ret, opS, opN, bd_bd, ite_bd, opIf, gs0, gs1, gs2, gs3, gs4, gs5, gs6, gs7, gs8, gs9, gs10, ss0, ss1, ss2, ss3, ss4, ss5, ss6, ss7, ss8, ss9, ss10, setTg, setTgs, Option.bind_some, Option.map_some, Option.map_none, truth, truthD, cmpD, cmpP, eqD, binP, isiM, isiAny, isiD, b1M, b1P, b2P, ixM, ixP, mkC_call, mkC_dfl, mkC_glo, mkC_sup, List.map, List.replicate, List.cons_append, List.nil_append, List.append_nil, Nat.reduceSub, List.reduceReplicate, Int.reduceLT, Int.reduceLE, Int.reduceEq, if_true, if_false, Bool.or_false, Bool.or_true, Bool.false_eq_true, Bool.not_true, Bool.not_false, Bool.true_and, Bool.and_true, decide_eq_true_eq, d1, bndH e3, retH]) ss2),
      seqH_nx (ex_setH (i := 3) (d := .lst ((bent a b (2 + z)).take 3)) (ρ' := [.val (.ref n), .val (fr a b), .val (.int (2 + z)), .val (.lst ((bent a b (2 + z)).take 3)), .non]) (h' := h3) (by
        simp only [execs_nil, execs_cons, nxt_nx, nxt_ret, fin_nx, fin_ret, exec, ev, evs, evL_L, ret_bd, pur_bd, fai_bd, thr_bd, pur_ret, opS, opN, bd_bd, ite_bd, opIf, gs0, gs1, gs2, gs3, gs4, gs5, gs6, gs7, gs8, gs9, gs10, ss0, ss1, ss2, ss3, ss4, ss5, ss6, ss7, ss8, ss9, ss10, setTg, setTgs, Option.bind_some, Option.map_some, Option.map_none, truth, truthD, cmpD, cmpP, eqD, binP, isiM, isiAny, isiD, b1M, b1P, b2P, ixM, ixP, mkC_call, mkC_dfl, mkC_glo, mkC_sup, List.map, List.replicate, List.cons_append, List.nil_append, List.append_nil, Nat.reduceSub, List.reduceReplicate, Int.reduceLT, Int.reduceLE, Int.reduceEq, if_true, if_false, Bool.or_false, Bool.or_true, Bool.false_eq_true, Bool.not_true, Bool.not_false, Bool.true_and, Bool.and_true, decide_eq_true_eq, gt0, gt1, List.length_cons, List.length_nil, Nat.zero_add, Nat.reduceAdd, ln 2 (by decide), ln 3 (by decide), m1, m2, retH]
        rfl) ss3)]
    refine seqH_ret (ex_retH ?_)
    have e4' : C.call 224 [.ref n, .lst [.lst [.int a, .int b], .tup [.int (a * (2 + z)), .int (b * (2 + z))], .tup [.int (-a), .int (-b)], .tup [.int a], .tup [.int a, .int b, .int 1], .tup [fr a b, fr a b], .tup [.int a, .int 0]]] h3 = .ok x h4 := e4
    simp only [execs_nil, execs_cons, nxt_nx, nxt_ret, fin_nx, fin_ret, exec, ev, evs, evL_L, ret_bd, pur_bd, fai_bd, thr_bd, pur_ret, opS, opN, bd_bd, ite_bd, opIf, gs0, gs1, gs2, gs3, gs4, gs5, gs6, gs7, gs8, gs9, gs10, ss0, ss1, ss2, ss3, ss4, ss5, ss6, ss7, ss8, ss9, ss10, setTg, setTgs, Option.bind_some, Option.map_some, Option.map_none, truth, truthD, cmpD, cmpP, eqD, binP, isiM, isiAny, isiD, b1M, b1P, b2P, ixM, ixP, mkC_call, mkC_dfl, mkC_glo, mkC_sup, List.map, List.replicate, List.cons_append, List.nil_append, List.append_nil, Nat.reduceSub, List.reduceReplicate, Int.reduceLT, Int.reduceLE, Int.reduceEq, if_true, if_false, Bool.or_false, Bool.or_true, Bool.false_eq_true, Bool.not_true, Bool.not_false, Bool.true_and, Bool.and_true, decide_eq_true_eq, evL_cat, listM, bent, List.take_succ_cons, List.take_zero, gt0, gt1, List.length_cons, List.length_nil, Nat.zero_add, Nat.reduceAdd, ln 1 (by decide), ln 2 (by decide), ln 3 (by decide), ln 4 (by decide), ln 7 (by decide), d3, e4']
  · obtain ⟨x, h4, e4, hx, s4⟩ := hp _ ((bad1 ++ bad2) ++ bad3) h1 (by simp [bad1]) (by simp [bad1, bad2, bad3]) s1 (by omega)
    refine ⟨x, h4, finR (ρ' := [.val (.ref n), .non, .non, .non, .val (.lst (bad1 ++ bad2))]) ?_, bad_all x hx, s4.mono (by omega)⟩
    rw [seqH_nx (ρ' := [.val (.ref n), .non, .non, .non, .non]) (h' := h1) (by rw [exH_f (h' := h1) (by simp only [execs_nil, execs_cons, nxt_nx, nxt_ret, fin_nx, fin_ret, exec, ev, evs, evL_L, ret_bd, pur_bd, fai_bd, thr_bd, pur_ret, opS, opN, bd_bd, ite_bd, opIf, gs0, gs1, gs2, gs3, gs4, gs5, gs6, gs7, gs8, gs9, gs10, ss0, ss1, ss2, ss3, ss4, ss5, ss6, ss7, ss8, ss9, ss10, setTg, setTgs, Option.bind_some, Option.map_some, Option.map_none, truth, truthD, cmpD, cmpP, eqD, binP, isiM, isiAny, isiD, b1M, b1P, b2P, ixM, ixP, mkC_call, mkC_dfl, mkC_glo, mkC_sup, List.map, List.replicate, List.cons_append, List.nil_append, List.append_nil, Nat.reduceSub, List.reduceReplicate, Int.reduceLT, Int.reduceLE, Int.reduceEq, if_true, if_false, Bool.or_false, Bool.or_true, Bool.false_eq_true, Bool.not_true, Bool.not_false, Bool.true_and, Bool.and_true, decide_eq_true_eq, d1, bndH e1, q, decide_false, retH]), execs_nil, retH]),
      seqH_nx (ex_setH (i := 4) (d := .lst bad1) (ρ' := [.val (.ref n), .non, .non, .non, .val (.lst bad1)]) (h' := h1) (by
        simp only [execs_nil, execs_cons, nxt_nx, nxt_ret, fin_nx, fin_ret, exec, ev, evs, evL_L, ret_bd, pur_bd, fai_bd, thr_bd, pur_ret, opS, opN, bd_bd, ite_bd, opIf, gs0, gs1, gs2, gs3, gs4, gs5, gs6, gs7, gs8, gs9, gs10, ss0, ss1, ss2, ss3, ss4, ss5, ss6, ss7, ss8, ss9, ss10, setTg, setTgs, Option.bind_some, Option.map_some, Option.map_none, truth, truthD, cmpD, cmpP, eqD, binP, isiM, isiAny, isiD, b1M, b1P, b2P, ixM, ixP, mkC_call, mkC_dfl, mkC_glo, mkC_sup, List.map, List.replicate, List.cons_append, List.nil_append, List.append_nil, Nat.reduceSub, List.reduceReplicate, Int.reduceLT, Int.reduceLE, Int.reduceEq, if_true, if_false, Bool.or_false, Bool.or_true, Bool.false_eq_true, Bool.not_true, Bool.not_false, Bool.true_and, Bool.and_true, decide_eq_true_eq, List.length_cons, List.length_nil, Nat.zero_add, Nat.reduceAdd, ln 2 (by decide), ln 11 (by decide), retH]
        rfl) ss4),
      seqH_nx (ex_setH (i := 4) (d := .lst (bad1 ++ bad2)) (ρ' := [.val (.ref n), .non, .non, .non, .val (.lst (bad1 ++ bad2))]) (h' := h1) (by
        have lb : bad1.length + 6 ≤ line := by rw [hline]; decide
        simp only [execs_nil, execs_cons, nxt_nx, nxt_ret, fin_nx, fin_ret, exec, ev, evs, evL_L, ret_bd, pur_bd, fai_bd, thr_bd, pur_ret, opS, opN, bd_bd, ite_bd, opIf, gs0, gs1, gs2, gs3, gs4, gs5, gs6, gs7, gs8, gs9, gs10, ss0, ss1, ss2, ss3, ss4, ss5, ss6, ss7, ss8, ss9, ss10, setTg, setTgs, Option.bind_some, Option.map_some, Option.map_none, truth, truthD, cmpD, cmpP, eqD, binP, isiM, isiAny, isiD, b1M, b1P, b2P, ixM, ixP, mkC_call, mkC_dfl, mkC_glo, mkC_sup, List.map, List.replicate, List.cons_append, List.nil_append, List.append_nil, Nat.reduceSub, List.reduceReplicate, Int.reduceLT, Int.reduceLE, Int.reduceEq, if_true, if_false, Bool.or_false, Bool.or_true, Bool.false_eq_true, Bool.not_true, Bool.not_false, Bool.true_and, Bool.and_true, decide_eq_true_eq, evL_cat, listM, List.length_cons, List.length_nil, Nat.zero_add, Nat.reduceAdd, ln 0 (by decide), ln 1 (by decide), ln 2 (by decide), ln 3 (by decide), ln 6 (by decide), lb, retH]
        rfl) ss4)]
    refine seqH_ret (ex_retH ?_)
    have lb : (bad1 ++ bad2).length + 8 ≤ line := by rw [hline]; decide
    have e4' : C.call 224 [.ref n, .lst ((bad1 ++ bad2) ++ [.int 0, .int 1, .bl true, .bl false, .non, .str [49, 47, 50], .str [], .dk [] []])] h1 = .ok x h4 := e4
    simp only [execs_nil, execs_cons, nxt_nx, nxt_ret, fin_nx, fin_ret, exec, ev, evs, evL_L, ret_bd, pur_bd, fai_bd, thr_bd, pur_ret, opS, opN, bd_bd, ite_bd, opIf, gs0, gs1, gs2, gs3, gs4, gs5, gs6, gs7, gs8, gs9, gs10, ss0, ss1, ss2, ss3, ss4, ss5, ss6, ss7, ss8, ss9, ss10, setTg, setTgs, Option.bind_some, Option.map_some, Option.map_none, truth, truthD, cmpD, cmpP, eqD, binP, isiM, isiAny, isiD, b1M, b1P, b2P, ixM, ixP, mkC_call, mkC_dfl, mkC_glo, mkC_sup, List.map, List.replicate, List.cons_append, List.nil_append, List.append_nil, Nat.reduceSub, List.reduceReplicate, Int.reduceLT, Int.reduceLE, Int.reduceEq, if_true, if_false, Bool.or_false, Bool.or_true, Bool.false_eq_true, Bool.not_true, Bool.not_false, Bool.true_and, Bool.and_true, decide_eq_true_eq, evL_cat, listM, List.length_cons, List.length_nil, Nat.zero_add, Nat.reduceAdd, ln 8 (by decide), lb, d3, e4']
end PL.k71
end
section
set_option Elab.async false
set_option linter.all false
set_option maxRecDepth 100000
/-! K71D5: the refusals. -/
namespace PL.k71
open PySem PL
open SX _root_.TL
/-- BadValue(x) -/
def bv (x : D) : Exn := ⟨0, [x]⟩
def wordS : D := .str [119, 111, 114, 100]
def valueS : D := .str [118, 97, 108, 117, 101]
def badS : D := .str [66, 97, 100, 86, 97, 108, 117, 101]
theorem excH {α β : Type} {m : M α} {f : α → M β} {e : Exn} {h h' : Hs} (q : m h = .exc e h') : (m >>= f) h = .exc e h' := by
  simp only [Bind.bind, M.bnd, q]
theorem seqX {C : Cfg} {s : PL.St} {ss : List PL.St} {ρ : PL.Env} {h h' : Hs} {e : Exn} (q : exec C s ρ h = .exc e h') : execs C (s :: ss) ρ h = .exc e h' := by
  rw [execs_cons, excH q]
theorem thrH {α : Type} {e : Exn} {h : Hs} : (M.thr e : M α) h = .exc e h := rfl
theorem fo_x (k : Nat) (d : D) (hd : isiM pg.sup [.str] d = M.ret (.bl false)) (h : Hs) : callF pg (k + 1) 406 [d] h = .exc (bv wordS) h := by
  rw [callS (d := ⟨1, 4, ir406⟩) rfl rfl]
  have hs : (mkC pg (callF pg k)).sup = pg.sup := rfl
  generalize mkC pg (callF pg k) = C at hs ⊢
  show (execs C ir406 [.val d, .non, .non, .non] >>= fin) h = _
  refine excH ?_
  unfold ir406
  refine seqX ?_
  rw [exH_t (h' := h) (by
    rw [ev, ev, ev, gs0, ret_bd, hs, hd, ret_bd]
    rfl)]
  refine seqX ?_
  rw [exec]
  simp only [execs_nil, execs_cons, nxt_nx, nxt_ret, fin_nx, fin_ret, exec, ev, evs, evL_L, ret_bd, pur_bd, fai_bd, thr_bd, pur_ret, opS, opN, bd_bd, ite_bd, opIf, gs0, gs1, gs2, gs3, gs4, gs5, gs6, gs7, gs8, gs9, gs10, ss0, ss1, ss2, ss3, ss4, ss5, ss6, ss7, ss8, ss9, ss10, setTg, setTgs, Option.bind_some, Option.map_some, Option.map_none, truth, truthD, cmpD, cmpP, eqD, binP, isiM, isiAny, isiD, b1M, b1P, b2P, ixM, ixP, mkC_call, mkC_dfl, mkC_glo, mkC_sup, List.map, List.replicate, List.cons_append, List.nil_append, List.append_nil, Nat.reduceSub, List.reduceReplicate, Int.reduceLT, Int.reduceLE, Int.reduceEq, if_true, if_false, Bool.or_false, Bool.or_true, Bool.false_eq_true, Bool.not_true, Bool.not_false, Bool.true_and, Bool.and_true, decide_eq_true_eq, thrH]
  rfl
theorem fw_x (k : Nat) (d : D) (hd : NF d) (h : Hs) : callF pg (k + 3) 407 [d] h = .exc (bv valueS) h := by
  rw [callS (d := ⟨1, 1, ir407⟩) rfl rfl]
  have d1 : (mkC pg (callF pg (k + 2))).dfl 433 0 = [] := rfl
  have hc : (mkC pg (callF pg (k + 2))).call 433 [d] = M.ret (.bl false) := hd k
  generalize mkC pg (callF pg (k + 2)) = C at d1 hc ⊢
  show (execs C ir407 [.val d] >>= fin) h = _
  refine excH ?_
  unfold ir407
  refine seqX ?_
  rw [exH_t (h' := h) (by simp only [execs_nil, execs_cons, nxt_nx, nxt_ret, fin_nx, fin_ret, exec, ev, evs, evL_L, ret_bd, pur_bd, fai_bd, thr_bd, pur_ret, opS, opN, bd_bd, ite_bd, opIf, gs0, gs1, gs2, gs3, gs4, gs5, gs6, gs7, gs8, gs9, gs10, ss0, ss1, ss2, ss3, ss4, ss5, ss6, ss7, ss8, ss9, ss10, setTg, setTgs, Option.bind_some, Option.map_some, Option.map_none, truth, truthD, cmpD, cmpP, eqD, binP, isiM, isiAny, isiD, b1M, b1P, b2P, ixM, ixP, mkC_call, mkC_dfl, mkC_glo, mkC_sup, List.map, List.replicate, List.cons_append, List.nil_append, List.append_nil, Nat.reduceSub, List.reduceReplicate, Int.reduceLT, Int.reduceLE, Int.reduceEq, if_true, if_false, Bool.or_false, Bool.or_true, Bool.false_eq_true, Bool.not_true, Bool.not_false, Bool.true_and, Bool.and_true, decide_eq_true_eq, d1, hc, retH])]
  refine seqX ?_
  rw [exec]
  simp only [execs_nil, execs_cons, nxt_nx, nxt_ret, fin_nx, fin_ret, exec, ev, evs, evL_L, ret_bd, pur_bd, fai_bd, thr_bd, pur_ret, opS, opN, bd_bd, ite_bd, opIf, gs0, gs1, gs2, gs3, gs4, gs5, gs6, gs7, gs8, gs9, gs10, ss0, ss1, ss2, ss3, ss4, ss5, ss6, ss7, ss8, ss9, ss10, setTg, setTgs, Option.bind_some, Option.map_some, Option.map_none, truth, truthD, cmpD, cmpP, eqD, binP, isiM, isiAny, isiD, b1M, b1P, b2P, ixM, ixP, mkC_call, mkC_dfl, mkC_glo, mkC_sup, List.map, List.replicate, List.cons_append, List.nil_append, List.append_nil, Nat.reduceSub, List.reduceReplicate, Int.reduceLT, Int.reduceLE, Int.reduceEq, if_true, if_false, Bool.or_false, Bool.or_true, Bool.false_eq_true, Bool.not_true, Bool.not_false, Bool.true_and, Bool.and_true, decide_eq_true_eq, thrH]
  rfl
/-- the raiser's answer -/
theorem ra_x {c : Nat → List D → M D} {x : D} {mm : M D} {h : Hs} (q : mm h = .exc (bv x) h) : (mkC pg c).hnd 248 mm h = .ok (.tup [badS, x]) h := by
  show noX (raM (mkC0 pg c) 4 ir248 mm) h = _
  have key : raM (mkC0 pg c) 4 ir248 mm h = .ok (.tup [badS, x]) h := by
    unfold raM
    have hC : ({ mkC0 pg c with lamc := mm } : Cfg).lamc = mm := rfl
    have hx : ({ mkC0 pg c with lamc := mm } : Cfg).xs 0 = some [0, 59] := rfl
    have hf : ({ mkC0 pg c with lamc := mm } : Cfg).xf 0 = some 0 := rfl
    generalize ({ mkC0 pg c with lamc := mm } : Cfg) = C at hC hx hf ⊢
    have e1 : execs C ir248 (.fn :: List.replicate 3 .non) h = .ok (.ret (.tup [badS, x]), List.replicate 4 .non) h := by
      unfold ir248
      refine seqH_ret ?_
      rw [exec]
      unfold tryM
      have lc : lcallE C 0 (.fn :: List.replicate 3 .non) = mm := by
        show C.lamc = mm
        exact hC
      rw [lc, q]
      show (match C.xs 0 with | some l => _ | none => _) = _
      rw [hx]
      show (if 59 ∈ [0, 59] then _ else _) = _
      rw [if_pos (by decide)]
      have ei : ∀ (t : Nat) ρ, ρ[1]? = some (Sl.exn (bv x)) → ev C (.eis 1 (some t)) ρ = M.ret (.bl (decide (t ∈ [0, 59]))) := fun t ρ hρ => by
        rw [ev]
        unfold eisE
        rw [hρ]
        show (match C.xs 0 with | some l => _ | none => _) = _
        rw [hx]
      have en : ∀ ρ, ρ[1]? = some (Sl.exn (bv x)) → ev C (.eis 1 none) ρ = M.ret (.bl true) := fun ρ hρ => by
        rw [ev]
        unfold eisE
        rw [hρ]
        show (match C.xs 0 with | some l => _ | none => _) = _
        rw [hx]
      have ef : ∀ ρ, ρ[1]? = some (Sl.exn (bv x)) → ev C (.efld 1 0) ρ = M.ret x := fun ρ hρ => by
        rw [ev]
        unfold efldE
        rw [hρ]
        show (if C.xf 0 = some 0 then M.ret x else M.fail) = _
        rw [if_pos hf]
      have ln : ∀ j : Nat, j ≤ 100 → j ≤ line := fun j hj => by rw [hline]; omega
      have sb : ∀ y : Sl, ([.non, .exn (bv x), y, .non] : PL.Env)[1]? = some (Sl.exn (bv x)) := fun _ => rfl
      have f1 : ∀ t, ev C (.eis 1 (some t)) [.non, .exn (bv x), .non, .non] = M.ret (.bl (decide (t ∈ [0, 59]))) := fun t => ei t _ (sb _)
      have f2 : ∀ t (y : D), ev C (.eis 1 (some t)) [.non, .exn (bv x), .val y, .non] = M.ret (.bl (decide (t ∈ [0, 59]))) := fun t y => ei t _ (sb _)
      have f3 : ∀ (y : D), ev C (.eis 1 none) [.non, .exn (bv x), .val y, .non] = M.ret (.bl true) := fun y => en _ (sb _)
      have f4 : ∀ (y : D), ev C (.efld 1 0) [.non, .exn (bv x), .val y, .non] = M.ret x := fun y => ef _ (sb _)
      let L1 : List D := [.bl true, .bl false, .bl false, .bl false]
      let L2 : List D := [.bl true, .bl false, .bl false, .bl false, .bl false, .bl false, .bl false, .bl false]
      let L3 : List D := [.bl true, .bl false, .bl false, .bl false, .bl false, .bl false, .bl false, .bl false, .bl false, .bl false, .bl false]
      have ecomp : evL C (.Lc [3] (.n 3) (.v 2) (.v 3) (.v 3)) [.non, .exn (bv x), .val (.lst L3), .non] = M.ret [.bl true] := by
        rw [evL, evI, gs2, ret_bd]
        rfl
      have elen : ev C (.cmp .NotEq (.b1 .len (.fz (.Lc [3] (.n 3) (.v 2) (.v 3) (.v 3)))) (.c (.int 1))) [.non, .exn (bv x), .val (.lst L3), .non] = M.ret (.bl false) := by
        rw [ev, ev, ev, ev, ecomp]
        rfl
      have suite : execs C [.set 2 (.fz (.L [(.eis 1 (some 0)), (.eis 1 (some 42)), (.eis 1 (some 62)), (.eis 1 (some 9))])),
          .set 2 (.fz (.Lcat (.v 2) (.fz (.L [(.eis 1 (some 64)), (.eis 1 (some 45)), (.eis 1 (some 63)), (.eis 1 (some 20))])))),
          .set 2 (.fz (.Lcat (.v 2) (.fz (.L [(.eis 1 (some 21)), (.eis 1 (some 1)), (.eis 1 (some 53))])))),
          .iff (.or_ (.cmp .NotEq (.b1 .len (.fz (.Lc [3] (.n 3) (.v 2) (.v 3) (.v 3)))) (.c (.int 1))) (.not_ (.eis 1 none))) [.ret (.tup [(.c (.str [109, 105, 120, 101, 100])), (.c (.non))])] [],
          .iff (.eis 1 (some 0)) [.ret (.tup [(.c (.str [66, 97, 100, 86, 97, 108, 117, 101])), (.efld 1 0)])] [],
          .ret (.tup [(.c (.str [111, 116, 104, 101, 114])), (.c (.non))])] [.non, .exn (bv x), .non, .non] = M.ret (.ret (.tup [badS, x]), [.non, .exn (bv x), .val (.lst L3), .non]) := by
        rw [seq_nx (ex_set (d := .lst L1) (ρ' := [.non, .exn (bv x), .val (.lst L1), .non]) (by
            rw [ev, evL]
            simp only [evs, f1, ret_bd, pur_bd, pur_ret, List.length_cons, List.length_nil, Nat.zero_add, Nat.reduceAdd, ln 4 (by decide), if_true]
            rfl) ss2),
          seq_nx (ex_set (d := .lst L2) (ρ' := [.non, .exn (bv x), .val (.lst L2), .non]) (by
            rw [ev, evL, ev, gs2, ret_bd, ev, evL]
            simp only [evs, f2, ret_bd, pur_bd, pur_ret, List.length_cons, List.length_nil, Nat.zero_add, Nat.reduceAdd, ln 4 (by decide), if_true, listM, bd_bd]
            rw [if_pos (show L1.length + 4 ≤ line from ln 8 (by decide))]
            rfl) ss2),
          seq_nx (ex_set (d := .lst L3) (ρ' := [.non, .exn (bv x), .val (.lst L3), .non]) (by
            rw [ev, evL, ev, gs2, ret_bd, ev, evL]
            simp only [evs, f2, ret_bd, pur_bd, pur_ret, List.length_cons, List.length_nil, Nat.zero_add, Nat.reduceAdd, ln 3 (by decide), if_true, listM, bd_bd]
            rw [if_pos (show L2.length + 3 ≤ line from ln 11 (by decide))]
            rfl) ss2),
          seq_nx (ρ' := [.non, .exn (bv x), .val (.lst L3), .non]) (by
            rw [ex_iff_f (by
              rw [ev, elen]
              show ev C (.not_ (.eis 1 none)) [.non, .exn (bv x), .val (.lst L3), .non] = _
              rw [ev, f3]
              rfl), execs_nil])]
        refine seq_ret ?_
        rw [ex_iff_t (by rw [f2]; rfl)]
        refine seq_ret ?_
        rw [exec, ev, evs, ev, ret_bd, evs, f4, ret_bd, evs]
        rfl
      show (match execs C _ [.non, .exn (bv x), .non, .non] h with | .ok x h'' => Res.ok (offE x) h'' | .exc _ _ => .bad | .bad => .bad) = _
      rw [suite]
      rfl
    show (execs C ir248 (.fn :: List.replicate 3 .non) >>= _) h = _
    rw [bndH e1]
    rfl
  unfold noX
  rw [key]
/-- not a text -/
def wrongs : List D := [.non, .bl true, .int 0, .int 5, fr 1 2, .lst [.str [49, 47, 50]], .lst [], .dk [] [], .tup [.str [49]], .int (-1)]
theorem wrong_all : ∀ d ∈ wrongs, isiM pg.sup [.str] d = M.ret (.bl false) := by
  intro d hd
  simp only [wrongs, List.mem_cons, List.not_mem_nil, or_false] at hd
  rcases hd with rfl | rfl | rfl | rfl | rfl | rfl | rfl | rfl | rfl | rfl <;> rfl
/-- _law_refuses -/
theorem rf_1 (k n B : Nat) (h : Hs) (hs : Sto n B h) (hB : B + 11 ≤ 2 ^ 60) : ∃ h', callF pg (k + 6) 251 [.ref n] h = .ok (.bl true) h' ∧ Sto n (B + 11) h' := by
  rw [callS (k := k + 5) (d := ⟨1, 4, ir251⟩) rfl rfl]
  have d1 : (mkC pg (callF pg (k + 5))).dfl 224 0 = [] := rfl
  have d2 : (mkC pg (callF pg (k + 5))).dfl 89 0 = [] := rfl
  have d3 : (mkC pg (callF pg (k + 5))).dfl 406 0 = [] := rfl
  have d4 : (mkC pg (callF pg (k + 5))).dfl 407 0 = [] := rfl
  have d5 : (mkC pg (callF pg (k + 5))).dfl 260 0 = [] := rfl
  have hp : ∀ B ds h, ds ≠ [] → ds.length < 2 ^ 100 → Sto n B h → B + 1 ≤ 2 ^ 60 → ∃ d h', (mkC pg (callF pg (k + 5))).call 224 [.ref n, .lst ds] h = .ok d h' ∧ d ∈ ds ∧ Sto n (B + 1) h' := fun B ds h h0 hl hs hB => pk1 (k + 2) n B ds h hs hB h0 hl
  have hb : ∀ B h, Sto n B h → B + 10 ≤ 2 ^ 60 → ∃ d h', (mkC pg (callF pg (k + 5))).call 89 [.ref n] h = .ok d h' ∧ NF d ∧ Sto n (B + 10) h' := fun B h hs hB => bf_1 (k + 1) n B h hs hB
  have h6 : ∀ d h, isiM pg.sup [.str] d = M.ret (.bl false) → (mkC pg (callF pg (k + 5))).call 406 [d] h = .exc (bv wordS) h := fun d h hd => fo_x (k + 4) d hd h
  have h7 : ∀ d h, NF d → (mkC pg (callF pg (k + 5))).call 407 [d] h = .exc (bv valueS) h := fun d h hd => fw_x (k + 2) d hd h
  have hh : ∀ x mm h, mm h = .exc (bv x) h → (mkC pg (callF pg (k + 5))).hnd 248 mm h = .ok (.tup [badS, x]) h := fun x mm h q => ra_x q
  have hS : ∀ d, Pl 2 d → (mkC pg (callF pg (k + 5))).call 260 [d, d] = M.ret (.bl true) := fun d hd => same1 2 d hd (k + 1)
  generalize mkC pg (callF pg (k + 5)) = C at d1 d2 d3 d4 d5 hp hb h6 h7 hh hS ⊢
  show ∃ h', (execs C ir251 [.val (.ref n), .non, .non, .non] >>= fin) h = _ ∧ _
  have ln : ∀ j : Nat, j ≤ 100 → j ≤ line := fun j hj => by rw [hline]; omega
  obtain ⟨x, h1, e1, hx, s1⟩ := hp B wrongs h (by simp [wrongs]) (by simp [wrongs]) hs (by omega)
  obtain ⟨y, h2, e2, hy, s2⟩ := hb _ h1 s1 (by omega)
  have hx2 := wrong_all x hx
  have e1' : C.call 224 [.ref n, .lst [.non, .bl true, .int 0, .int 5, fr 1 2, .lst [.str [49, 47, 50]], .lst [], .dk [] [], .tup [.str [49]], .int (-1)]] h = .ok x h1 := e1
  let A : D := .tup [badS, wordS]
  let E2 : D := .tup [badS, valueS]
  refine ⟨h2, finR (ρ' := [.val (.ref n), .val x, .val y, .val (.lst [A, E2])]) ?_, s2.mono (by omega)⟩
  unfold ir251
  have l1 : ev C (.lam 248 (.call 406 0 [(.v 1)])) [.val (.ref n), .val x, .val y, .non] h2 = .ok A h2 := by
    rw [ev]
    refine hh _ _ _ ?_
    rw [ev]
    simp only [execs_nil, execs_cons, nxt_nx, nxt_ret, fin_nx, fin_ret, exec, ev, evs, evL_L, ret_bd, pur_bd, fai_bd, thr_bd, pur_ret, opS, opN, bd_bd, ite_bd, opIf, gs0, gs1, gs2, gs3, gs4, gs5, gs6, gs7, gs8, gs9, gs10, ss0, ss1, ss2, ss3, ss4, ss5, ss6, ss7, ss8, ss9, ss10, setTg, setTgs, Option.bind_some, Option.map_some, Option.map_none, truth, truthD, cmpD, cmpP, eqD, binP, isiM, isiAny, isiD, b1M, b1P, b2P, ixM, ixP, mkC_call, mkC_dfl, mkC_glo, mkC_sup, List.map, List.replicate, List.cons_append, List.nil_append, List.append_nil, Nat.reduceSub, List.reduceReplicate, Int.reduceLT, Int.reduceLE, Int.reduceEq, if_true, if_false, Bool.or_false, Bool.or_true, Bool.false_eq_true, Bool.not_true, Bool.not_false, Bool.true_and, Bool.and_true, decide_eq_true_eq, d3, h6 x h2 hx2]
  have l2 : ev C (.lam 248 (.call 407 0 [(.v 2)])) [.val (.ref n), .val x, .val y, .own (.lst [A])] h2 = .ok E2 h2 := by
    rw [ev]
    refine hh _ _ _ ?_
    rw [ev]
    simp only [execs_nil, execs_cons, nxt_nx, nxt_ret, fin_nx, fin_ret, exec, ev, evs, evL_L, ret_bd, pur_bd, fai_bd, thr_bd, pur_ret, opS, opN, bd_bd, ite_bd, opIf, gs0, gs1, gs2, gs3, gs4, gs5, gs6, gs7, gs8, gs9, gs10, ss0, ss1, ss2, ss3, ss4, ss5, ss6, ss7, ss8, ss9, ss10, setTg, setTgs, Option.bind_some, Option.map_some, Option.map_none, truth, truthD, cmpD, cmpP, eqD, binP, isiM, isiAny, isiD, b1M, b1P, b2P, ixM, ixP, mkC_call, mkC_dfl, mkC_glo, mkC_sup, List.map, List.replicate, List.cons_append, List.nil_append, List.append_nil, Nat.reduceSub, List.reduceReplicate, Int.reduceLT, Int.reduceLE, Int.reduceEq, if_true, if_false, Bool.or_false, Bool.or_true, Bool.false_eq_true, Bool.not_true, Bool.not_false, Bool.true_and, Bool.and_true, decide_eq_true_eq, d4, h7 y h2 hy]
  have pl : Pl 2 (.lst [A, E2]) := .lst (fun d hd => by
    simp only [List.mem_cons, List.not_mem_nil, or_false] at hd
    rcases hd with rfl | rfl
    · exact .tup (fun d hd => by simp only [List.mem_cons, List.not_mem_nil, or_false] at hd; rcases hd with rfl | rfl <;> exact .str) (by simp)
    · exact .tup (fun d hd => by simp only [List.mem_cons, List.not_mem_nil, or_false] at hd; rcases hd with rfl | rfl <;> exact .str) (by simp)) (by simp)
  have hs2 : C.call 260 [.lst [A, E2], .lst [A, E2]] = M.ret (.bl true) := hS _ pl
  rw [seqH_nx (ex_setH (i := 1) (d := x) (ρ' := [.val (.ref n), .val x, .non, .non]) (h' := h1) (by
      simp only [execs_nil, execs_cons, nxt_nx, nxt_ret, fin_nx, fin_ret, exec, ev, evs, evL_L, ret_bd, pur_bd, fai_bd, thr_bd, pur_ret, opS, opN, bd_bd, ite_bd, opIf, gs0, gs1, gs2, gs3, gs4, gs5, gs6, gs7, gs8, gs9, gs10, ss0, ss1, ss2, ss3, ss4, ss5, ss6, ss7, ss8, ss9, ss10, setTg, setTgs, Option.bind_some, Option.map_some, Option.map_none, truth, truthD, cmpD, cmpP, eqD, binP, isiM, isiAny, isiD, b1M, b1P, b2P, ixM, ixP, mkC_call, mkC_dfl, mkC_glo, mkC_sup, List.map, List.replicate, List.cons_append, List.nil_append, List.append_nil, Nat.reduceSub, List.reduceReplicate, Int.reduceLT, Int.reduceLE, Int.reduceEq, if_true, if_false, Bool.or_false, Bool.or_true, Bool.false_eq_true, Bool.not_true, Bool.not_false, Bool.true_and, Bool.and_true, decide_eq_true_eq, List.length_cons, List.length_nil, Nat.zero_add, Nat.reduceAdd, ln 0 (by decide), ln 1 (by decide), ln 2 (by decide), ln 10 (by decide), d1, e1']) ss1),
    seqH_nx (ex_setH (i := 2) (d := y) (ρ' := [.val (.ref n), .val x, .val y, .non]) (h' := h2) (by simp only [execs_nil, execs_cons, nxt_nx, nxt_ret, fin_nx, fin_ret, exec, ev, evs, evL_L, ret_bd, pur_bd, fai_bd, thr_bd, pur_ret, opS, opN, bd_bd, ite_bd, opIf, gs0, gs1, gs2, gs3, gs4, gs5, gs6, gs7, gs8, gs9, gs10, ss0, ss1, ss2, ss3, ss4, ss5, ss6, ss7, ss8, ss9, ss10, setTg, setTgs, Option.bind_some, Option.map_some, Option.map_none, truth, truthD, cmpD, cmpP, eqD, binP, isiM, isiAny, isiD, b1M, b1P, b2P, ixM, ixP, mkC_call, mkC_dfl, mkC_glo, mkC_sup, List.map, List.replicate, List.cons_append, List.nil_append, List.append_nil, Nat.reduceSub, List.reduceReplicate, Int.reduceLT, Int.reduceLE, Int.reduceEq, if_true, if_false, Bool.or_false, Bool.or_true, Bool.false_eq_true, Bool.not_true, Bool.not_false, Bool.true_and, Bool.and_true, decide_eq_true_eq, d2, e2]) ss2),
    seqH_nx (ρ' := [.val (.ref n), .val x, .val y, .own (.lst [A])]) (h' := h2) (by
      rw [exec, evL, evs]
      rw [bd_bd, bd_bd, bndH l1]
      rfl),
    seqH_nx (ρ' := [.val (.ref n), .val x, .val y, .own (.lst [A, E2])]) (h' := h2) (by
      rw [exec]
      show (ev C (.lam 248 (.call 407 0 [(.v 2)])) [.val (.ref n), .val x, .val y, .own (.lst [A])] >>= fun d => if [A].length < line then _ else _) h2 = _
      rw [bndH l2]
      rfl),
    seqH_nx (ρ' := [.val (.ref n), .val x, .val y, .val (.lst [A, E2])]) (h' := h2) (by rw [exec]; rfl)]
  refine seqH_ret (ex_retH ?_)
  have hs3 : C.call 260 [.lst [A, E2], .lst [.tup [.str [66, 97, 100, 86, 97, 108, 117, 101], .str [119, 111, 114, 100]], .tup [.str [66, 97, 100, 86, 97, 108, 117, 101], .str [118, 97, 108, 117, 101]]]] = M.ret (.bl true) := hs2
  simp only [execs_nil, execs_cons, nxt_nx, nxt_ret, fin_nx, fin_ret, exec, ev, evs, evL_L, ret_bd, pur_bd, fai_bd, thr_bd, pur_ret, opS, opN, bd_bd, ite_bd, opIf, gs0, gs1, gs2, gs3, gs4, gs5, gs6, gs7, gs8, gs9, gs10, ss0, ss1, ss2, ss3, ss4, ss5, ss6, ss7, ss8, ss9, ss10, setTg, setTgs, Option.bind_some, Option.map_some, Option.map_none, truth, truthD, cmpD, cmpP, eqD, binP, isiM, isiAny, isiD, b1M, b1P, b2P, ixM, ixP, mkC_call, mkC_dfl, mkC_glo, mkC_sup, List.map, List.replicate, List.cons_append, List.nil_append, List.append_nil, Nat.reduceSub, List.reduceReplicate, Int.reduceLT, Int.reduceLE, Int.reduceEq, if_true, if_false, Bool.or_false, Bool.or_true, Bool.false_eq_true, Bool.not_true, Bool.not_false, Bool.true_and, Bool.and_true, decide_eq_true_eq, List.length_cons, List.length_nil, Nat.zero_add, Nat.reduceAdd, ln 2 (by decide), d5, hs3, retH]
end PL.k71
end
section
set_option Elab.async false
set_option linter.all false
set_option maxRecDepth 100000
/-! K71D6: the store, the read fractions. -/
namespace PL.k71
open PySem PL
open SX _root_.TL
theorem st_1 (k : Nat) (ns : List Int) (hl : ns.length ≤ 63) : ∃ h', callF pg (k + 1) 290 [.scr ns] h0 = .ok (.ref 0) h' ∧ Sto 0 0 h' := by
  rw [callS (k := k) (d := ⟨1, 3, ir290⟩) rfl rfl]
  generalize mkC pg (callF pg k) = C
  have n1 : (2147483629 : Int) ≠ 0 := by decide
  have n2 : (2147483647 : Int) ≠ 0 := by decide
  obtain ⟨ρ', eL, hJ⟩ := forM_inv (f := setTg (.n 2)) (b := execs C [.set 1 (.bin .Mod (.bin .Add (.bin .Add (.bin .Mult (.v 1) (.c (.int 48271))) (.bin .Mod (.b1 .int (.v 2)) (.c (.int 2147483629)))) (.c (.int 11))) (.c (.int 2147483647)))])
    (fun ρ => ∃ (s : Int) (x : Sl), 0 ≤ s ∧ s < 2147483648 ∧ ρ = [.val (.scr ns), .val (.int s), x]) (ns.map D.int) (fun d hd ρ ⟨s, x, s0, s1, hρ⟩ => by
      obtain ⟨z, _, rfl⟩ := List.mem_map.mp hd
      subst hρ
      have m1 := mk_of (j := 48271) (p31 ⟨s0, s1⟩) (pC (by decide))
      obtain ⟨f1, f2⟩ := fm (a := s * 48271 + z.fmod 2147483629 + 11) (b := 2147483647) (by decide)
      refine ⟨[.val (.scr ns), .val (.int s), .val (.int z)], [.val (.scr ns), .val (.int ((s * 48271 + z.fmod 2147483629 + 11).fmod 2147483647)), .val (.int z)], rfl, ?_, _, _, f1, by omega, rfl⟩
      simp only [execs_nil, execs_cons, nxt_nx, nxt_ret, fin_nx, fin_ret, exec, ev, evs, evL_L, ret_bd, pur_bd, fai_bd, thr_bd, pur_ret, opS, opN, bd_bd, ite_bd, opIf, gs0, gs1, gs2, gs3, gs4, gs5, gs6, gs7, gs8, gs9, gs10, ss0, ss1, ss2, ss3, ss4, ss5, ss6, ss7, ss8, ss9, ss10, setTg, setTgs, Option.bind_some, Option.map_some, Option.map_none, truth, truthD, cmpD, cmpP, eqD, binP, isiM, isiAny, isiD, b1M, b1P, b2P, ixM, ixP, mkC_call, mkC_dfl, mkC_glo, mkC_sup, List.map, List.replicate, List.cons_append, List.nil_append, List.append_nil, Nat.reduceSub, List.reduceReplicate, Int.reduceLT, Int.reduceLE, Int.reduceEq, if_true, if_false, Bool.or_false, Bool.or_true, Bool.false_eq_true, Bool.not_true, Bool.not_false, Bool.true_and, Bool.and_true, decide_eq_true_eq, m1, n1, n2, ne_eq, not_false_eq_true]) [.val (.scr ns), .val (.int (ns.length + 1000003)), .non] ⟨_, _, by omega, by omega, rfl⟩
  obtain ⟨s, x, s0, s1, rfl⟩ := hJ
  refine ⟨h0.new (SL ns 0 0 0 s 0 0), finR (ρ' := [.val (.scr ns), .val (.int s), x]) ?_, ⟨1, fun _ => none⟩, ns, 0, 0, 0, s, 0, 0, rfl, Int.le_refl _, Nat.le_refl _, by omega⟩
  show execs C ir290 [.val (.scr ns), .non, .non] h0 = _
  unfold ir290
  rw [seq_nx (ρ' := [.val (.scr ns), .val (.int (ns.length + 1000003)), .non]) (by simp only [execs_nil, execs_cons, nxt_nx, nxt_ret, fin_nx, fin_ret, exec, ev, evs, evL_L, ret_bd, pur_bd, fai_bd, thr_bd, pur_ret, opS, opN, bd_bd, ite_bd, opIf, gs0, gs1, gs2, gs3, gs4, gs5, gs6, gs7, gs8, gs9, gs10, ss0, ss1, ss2, ss3, ss4, ss5, ss6, ss7, ss8, ss9, ss10, setTg, setTgs, Option.bind_some, Option.map_some, Option.map_none, truth, truthD, cmpD, cmpP, eqD, binP, isiM, isiAny, isiD, b1M, b1P, b2P, ixM, ixP, mkC_call, mkC_dfl, mkC_glo, mkC_sup, List.map, List.replicate, List.cons_append, List.nil_append, List.append_nil, Nat.reduceSub, List.reduceReplicate, Int.reduceLT, Int.reduceLE, Int.reduceEq, if_true, if_false, Bool.or_false, Bool.or_true, Bool.false_eq_true, Bool.not_true, Bool.not_false, Bool.true_and, Bool.and_true, decide_eq_true_eq]),
    seq_nx (ex_fr (xs := ns.map D.int) (by rw [evI]; rfl) eL)]
  refine seqH_ret (ex_retH ?_)
  rw [ev, evL]
  have l7 : ([D.lst (ns.map D.int), .int 0, .int 0, .int 0, .int s, .int 0, .int 0] : List D).length ≤ line := by rw [hline]; exact (by decide : 7 ≤ 16777216)
  have eA : ev C (.fz (.Lcp (.v 0))) [.val (.scr ns), .val (.int s), x] = M.ret (.lst (ns.map D.int)) := by
    rw [ev, evL, ev, gs0, ret_bd]
    rfl
  rw [evs, eA]
  simp only [execs_nil, execs_cons, nxt_nx, nxt_ret, fin_nx, fin_ret, exec, ev, evs, evL_L, ret_bd, pur_bd, fai_bd, thr_bd, pur_ret, opS, opN, bd_bd, ite_bd, opIf, gs0, gs1, gs2, gs3, gs4, gs5, gs6, gs7, gs8, gs9, gs10, ss0, ss1, ss2, ss3, ss4, ss5, ss6, ss7, ss8, ss9, ss10, setTg, setTgs, Option.bind_some, Option.map_some, Option.map_none, truth, truthD, cmpD, cmpP, eqD, binP, isiM, isiAny, isiD, b1M, b1P, b2P, ixM, ixP, mkC_call, mkC_dfl, mkC_glo, mkC_sup, List.map, List.replicate, List.cons_append, List.nil_append, List.append_nil, Nat.reduceSub, List.reduceReplicate, Int.reduceLT, Int.reduceLE, Int.reduceEq, if_true, if_false, Bool.or_false, Bool.or_true, Bool.false_eq_true, Bool.not_true, Bool.not_false, Bool.true_and, Bool.and_true, decide_eq_true_eq]
  rw [if_pos l7]
  rfl
theorem iv_lt {s : List Nat} (h : iOk s = true) : (iVal s).natAbs < N40 := by
  rw [N40_eq]
  unfold iOk at h
  rcases Bool.or_eq_true _ _ ▸ h with h | h
  · have := of_decide_eq_true h
    subst this
    exact Nat.lt_of_le_of_lt (show _ ≤ 0 from Nat.le_of_eq (by decide)) (Nat.pow_pos (by decide))
  · have := dVal_lt h
    unfold iVal
    unfold iFig at this
    by_cases e : s.head? = some 45
    · rw [if_pos e] at this ⊢
      rw [Int.natAbs_neg, Int.natAbs_natCast]
      exact this
    · rw [if_neg e] at this ⊢
      rw [Int.natAbs_natCast]
      exact this
theorem frac_is (s : List Nat) : fracD s = .non ∨ FrD (fracD s) := by
  unfold fracD
  cases e : cut47 s with
  | none =>
    by_cases h : iOk s = true
    · right
      show FrD (if iOk s = true then _ else _)
      rw [if_pos h, ← low_eq (Int.le_refl 1)]
      exact low_FrD (Int.le_refl 1) (iv_lt h) (Nat.lt_trans (by decide) N40_big)
    · left
      show (if iOk s = true then _ else _) = _
      rw [if_neg h]
  | some p =>
    obtain ⟨a, b⟩ := p
    by_cases h : (iOk a && dOk b) = true
    · right
      show FrD (if (iOk a && dOk b) = true then _ else _)
      rw [if_pos h]
      obtain ⟨h1, h2⟩ := (Bool.and_eq_true _ _).mp h
      have hp := dVal_pos h2
      rw [← low_eq (by omega)]
      refine low_FrD (by omega) (iv_lt h1) ?_
      rw [Int.natAbs_natCast, N40_eq]
      exact dVal_lt h2
    · left
      show (if (iOk a && dOk b) = true then _ else _) = _
      rw [if_neg h]
end PL.k71
end
section
set_option Elab.async false
set_option linter.all false
set_option maxRecDepth 100000
/-! K71D7: the law. -/
namespace PL
open PySem PL
section
variable {C : Cfg} {ρ : PL.Env} {h h1 h2 : Hs} {d x : D} {e a b : Ex} {es : List Ex} {ds : List D}
theorem evs0H : evs C [] ρ h = .ok [] h := by rw [evs]; rfl
theorem evscH (e1 : ev C e ρ h = .ok d h1) (e2 : evs C es ρ h1 = .ok ds h2) : evs C (e :: es) ρ h = .ok (d :: ds) h2 := by
  rw [evs, bndH e1, bndH e2]
  rfl
theorem callH {f j : Nat} (hd : C.dfl f j = []) (e1 : evs C es ρ h = .ok ds h1) (e2 : C.call f ds h1 = .ok d h2) : ev C (.call f j es) ρ h = .ok d h2 := by
  rw [ev, bndH e1, hd, List.append_nil]
  exact e2
theorem orH_f (e1 : ev C a ρ h = .ok (.bl false) h1) (e2 : ev C b ρ h1 = .ok d h2) : ev C (.or_ a b) ρ h = .ok d h2 := by
  rw [ev, bndH e1]
  exact e2
theorem notH_t (e1 : ev C a ρ h = .ok (.bl true) h1) : ev C (.not_ a) ρ h = .ok (.bl false) h1 := by
  rw [ev, bndH e1]
  rfl
theorem vH {i : Nat} (g : getSl ρ i = M.ret d) : ev C (.v i) ρ h = .ok d h := by rw [ev, g]; rfl
theorem cH : ev C (.c d) ρ h = .ok d h := by rw [ev]; rfl
theorem tupH (e1 : evs C es ρ h = .ok ds h1) (hl : ds.length ≤ line) : ev C (.tup es) ρ h = .ok (.tup ds) h1 := by
  rw [ev, bndH e1, if_pos hl]
  rfl
theorem fzLH (e1 : evs C es ρ h = .ok ds h1) (hl : ds.length ≤ line) : ev C (.fz (.L es)) ρ h = .ok (.lst ds) h1 := by
  rw [ev, evL, bd_bd, bndH e1, if_pos hl]
  rfl
end
end PL
namespace PL.k71
open PySem PL
open SX _root_.TL
/-- what the defs around the law give -/
structure LawC (C : Cfg) (ns : List Int) : Prop where
  d : ∀ f, f ∈ [290, 331, 154, 161, 321, 406, 260, 156, 190, 251, 294, 224, 191] → C.dfl f 0 = []
  st : ∃ h', C.call 290 [.scr ns] h0 = .ok (.ref 0) h' ∧ Sto 0 0 h'
  wr : ∀ a b (m : Nat), isF a b = true → a.natAbs < N40 → b.natAbs < N40 → m ≤ 8 → C.call 331 [fr a b, .int m] = M.ret (.bl true)
  fo : ∀ s, s.length ≤ line → C.call 406 [.str s] = M.ret (fracD s)
  fd : ∀ s, s.length + 2 ≤ line → C.call 156 [.str s] = M.ret (fracD s)
  sm : ∀ d, Pl 2 d → C.call 260 [d, d] = M.ret (.bl true)
  s1 : ∀ d, Pl 1 d → C.call 260 [d, d] = M.ret (.bl true)
  ll : ∀ n d, 1 ≤ d → d.natAbs < N40 → C.call 191 [.int n, .int d] = M.ret (lowL n d)
  T : TkC C 0
  pk : ∀ B ds h, ds ≠ [] → ds.length < 2 ^ 100 → Sto 0 B h → B + 1 ≤ 2 ^ 60 → ∃ d h', C.call 224 [.ref 0, .lst ds] h = .ok d h' ∧ d ∈ ds ∧ Sto 0 (B + 1) h'
  gt : ∀ B h, Sto 0 B h → B + 3 ≤ 2 ^ 60 → ∃ z h', C.call 161 [.ref 0] h = .ok (.int z) h' ∧ z.natAbs < N40 ∧ Sto 0 (B + 3) h'
  fw : ∀ B h, Sto 0 B h → B + 7 ≤ 2 ^ 60 → ∃ d h', C.call 154 [.ref 0] h = .ok d h' ∧ FrD d ∧ Sto 0 (B + 7) h'
  lw : ∀ B a b h, isF a b = true → a.natAbs < N40 → b.natAbs < N40 → Sto 0 B h → B + 1 ≤ 2 ^ 60 → ∃ w h', C.call 190 [.ref 0, fr a b] h = .ok (.str w) h' ∧ fracD w = fr a b ∧ w.length ≤ 9000 ∧ Sto 0 (B + 1) h'
  wd : ∀ B h, Sto 0 B h → B + 300 ≤ 2 ^ 60 → ∃ w h', C.call 321 [.ref 0] h = .ok (.str w) h' ∧ w.length ≤ 40000 ∧ Sto 0 (B + 300) h'
  rf : ∀ B h, Sto 0 B h → B + 11 ≤ 2 ^ 60 → ∃ h', C.call 251 [.ref 0] h = .ok (.bl true) h' ∧ Sto 0 (B + 11) h'
theorem law_c (ns : List Int) (hl : ns.length ≤ 63) : LawC (mkC pg (callF pg 13)) ns where
  d := fun f hf => by
    simp only [List.mem_cons, List.not_mem_nil, or_false] at hf
    rcases hf with rfl | rfl | rfl | rfl | rfl | rfl | rfl | rfl | rfl | rfl | rfl | rfl | rfl <;> rfl
  st := st_1 12 ns hl
  wr := fun a b m h1 h2 h3 h4 => wr1 6 h1 h2 h3 h4
  fo := fun s h => fo1 9 s h
  fd := fun s h => fd1 10 s h
  sm := fun d h => same1 2 d h 9
  s1 := fun d h => same1 1 d h 10
  ll := fun n d h1 h2 => ll1 11 n d (gcd_lt h1 h2)
  T := tkC 11 0
  pk := fun B ds h h1 h2 h3 h4 => pk1 10 0 B ds h h3 h4 h1 h2
  gt := fun B h h1 h2 => gt_1 10 0 B h h1 h2
  fw := fun B h h1 h2 => fw_1 9 0 B h h1 h2
  lw := fun B a b h h1 h2 h3 h4 h5 => lw_1 10 0 B a b h1 h2 h3 h h4 h5
  wd := fun B h h1 h2 => wd_1 8 0 B h h1 h2
  rf := fun B h h1 h2 => rf_1 7 0 B h h1 h2
/-! ### the words -/
theorem compL_words {turn : D → M (Option D)} {n : Nat} (ht : ∀ x B h, Sto n B h → B + 300 ≤ 2 ^ 60 → ∃ w h', turn x h = .ok (some (.str w)) h' ∧ w.length ≤ 40000 ∧ Sto n (B + 300) h') : ∀ (xs : List D) (acc : List (List Nat)) (B : Nat) (h : Hs), Sto n B h → B + 300 * xs.length ≤ 2 ^ 60 → acc.length + xs.length ≤ line → (∀ w ∈ acc, w.length ≤ 40000) →
    ∃ (ws : List (List Nat)) (h' : Hs), compL turn (acc.map D.str) xs h = .ok (ws.map D.str) h' ∧ ws.length = acc.length + xs.length ∧ (∀ w ∈ ws, w.length ≤ 40000) ∧ Sto n (B + 300 * xs.length) h'
  | [], acc, B, h, hs, _, _, ha => ⟨acc, h, by rw [compL, retH], by simp, ha, hs⟩
  | x :: xs, acc, B, h, hs, hB, hl, ha => by
    rw [List.length_cons] at hB hl
    obtain ⟨w, h1, e, lw, s1⟩ := ht x B h hs (by omega)
    obtain ⟨ws, h', e2, l2, hw, s2⟩ := compL_words ht xs (acc ++ [w]) (B + 300) h1 s1 (by omega) (by rw [List.length_append, List.length_singleton]; omega) (fun v hv => by
      rcases List.mem_append.mp hv with hv | hv
      · exact ha v hv
      · rw [List.mem_singleton.mp hv]; exact lw)
    refine ⟨ws, h', ?_, by rw [l2, List.length_append, List.length_singleton, List.length_cons]; omega, hw, by rw [List.length_cons, show B + 300 * (xs.length + 1) = B + 300 + 300 * xs.length by omega]; exact s2⟩
    rw [compL, bndH e]
    dsimp only
    rw [if_pos (by rw [List.length_map]; omega), ← e2]
    rw [List.map_append]
    rfl
def lawBody : List PL.St := [.set 6 (.call 406 0 [(.v 5)]),
  .oapp 4 (.v 6),
  .iff (.not_ (.call 260 0 [(.v 6), (.call 156 0 [(.v 5)])])) [.ret (.c (.bl false))] [],
  .iff (.and_ (.cmp .IsNot (.v 6) (.c (.non))) (.not_ (.call 331 0 [(.v 6), (.c (.int 2))]))) [.ret (.c (.bl false))] []]
variable {a0 a1 a2 a3 a7 a8 a9 a10 : Sl}
theorem pl_frac (s : List Nat) : Pl 1 (fracD s) := by
  rcases frac_is s with e | ⟨a, b, e, _⟩
  · rw [e]; exact .non
  · rw [e]; exact pl_fr
theorem law_turn {C : Cfg} {ns : List Int} (L : LawC C ns) {s : List Nat} (hs : s.length + 2 ≤ line) {acc : List D} (ha : acc.length < line) {x6 : Sl} :
    execs C lawBody [a0, a1, a2, a3, .own (.lst acc), .val (.str s), x6, a7, a8, a9, a10] = M.ret (.nx, [a0, a1, a2, a3, .own (.lst (acc ++ [fracD s])), .val (.str s), .val (fracD s), a7, a8, a9, a10]) := by
  have d1 := L.d 406 (by decide)
  have d2 := L.d 260 (by decide)
  have d3 := L.d 156 (by decide)
  have d4 := L.d 331 (by decide)
  have f1 := L.fo s (by omega)
  have f2 := L.fd s hs
  have sm := L.s1 _ (pl_frac s)
  unfold lawBody
  rw [seq_nx (ex_set (d := fracD s) (ρ' := [a0, a1, a2, a3, .own (.lst acc), .val (.str s), .val (fracD s), a7, a8, a9, a10]) (by simp only [execs_nil, execs_cons, nxt_nx, nxt_ret, fin_nx, fin_ret, exec, ev, evs, evL_L, ret_bd, pur_bd, fai_bd, thr_bd, pur_ret, opS, opN, bd_bd, ite_bd, opIf, gs0, gs1, gs2, gs3, gs4, gs5, gs6, gs7, gs8, gs9, gs10, ss0, ss1, ss2, ss3, ss4, ss5, ss6, ss7, ss8, ss9, ss10, setTg, setTgs, Option.bind_some, Option.map_some, Option.map_none, truth, truthD, cmpD, cmpP, eqD, binP, isiM, isiAny, isiD, b1M, b1P, b2P, ixM, ixP, mkC_call, mkC_dfl, mkC_glo, mkC_sup, List.map, List.replicate, List.cons_append, List.nil_append, List.append_nil, Nat.reduceSub, List.reduceReplicate, Int.reduceLT, Int.reduceLE, Int.reduceEq, if_true, if_false, Bool.or_false, Bool.or_true, Bool.false_eq_true, Bool.not_true, Bool.not_false, Bool.true_and, Bool.and_true, decide_eq_true_eq, d1, f1]) ss6),
    seq_nx (ρ' := [a0, a1, a2, a3, .own (.lst (acc ++ [fracD s])), .val (.str s), .val (fracD s), a7, a8, a9, a10]) (by
      rw [exec, ev, gs6]
      show (if acc.length < line then _ else _) = _
      rw [if_pos ha]
      rfl),
    seq_nx (ρ' := [a0, a1, a2, a3, .own (.lst (acc ++ [fracD s])), .val (.str s), .val (fracD s), a7, a8, a9, a10]) (by
      rw [ex_iff_f (by simp only [execs_nil, execs_cons, nxt_nx, nxt_ret, fin_nx, fin_ret, exec, ev, evs, evL_L, ret_bd, pur_bd, fai_bd, thr_bd, pur_ret, opS, opN, bd_bd, ite_bd, opIf, gs0, gs1, gs2, gs3, gs4, gs5, gs6, gs7, gs8, gs9, gs10, ss0, ss1, ss2, ss3, ss4, ss5, ss6, ss7, ss8, ss9, ss10, setTg, setTgs, Option.bind_some, Option.map_some, Option.map_none, truth, truthD, cmpD, cmpP, eqD, binP, isiM, isiAny, isiD, b1M, b1P, b2P, ixM, ixP, mkC_call, mkC_dfl, mkC_glo, mkC_sup, List.map, List.replicate, List.cons_append, List.nil_append, List.append_nil, Nat.reduceSub, List.reduceReplicate, Int.reduceLT, Int.reduceLE, Int.reduceEq, if_true, if_false, Bool.or_false, Bool.or_true, Bool.false_eq_true, Bool.not_true, Bool.not_false, Bool.true_and, Bool.and_true, decide_eq_true_eq, d2, d3, f2, sm]), execs_nil])]
  rcases frac_is s with e | ⟨a, b, e, hF, ha, hb⟩
  · rw [e]
    rw [seq_nx (ρ' := [a0, a1, a2, a3, .own (.lst (acc ++ [.non])), .val (.str s), .val .non, a7, a8, a9, a10]) (by
      rw [ex_iff_f (by simp only [execs_nil, execs_cons, nxt_nx, nxt_ret, fin_nx, fin_ret, exec, ev, evs, evL_L, ret_bd, pur_bd, fai_bd, thr_bd, pur_ret, opS, opN, bd_bd, ite_bd, opIf, gs0, gs1, gs2, gs3, gs4, gs5, gs6, gs7, gs8, gs9, gs10, ss0, ss1, ss2, ss3, ss4, ss5, ss6, ss7, ss8, ss9, ss10, setTg, setTgs, Option.bind_some, Option.map_some, Option.map_none, truth, truthD, cmpD, cmpP, eqD, binP, isiM, isiAny, isiD, b1M, b1P, b2P, ixM, ixP, mkC_call, mkC_dfl, mkC_glo, mkC_sup, List.map, List.replicate, List.cons_append, List.nil_append, List.append_nil, Nat.reduceSub, List.reduceReplicate, Int.reduceLT, Int.reduceLE, Int.reduceEq, if_true, if_false, Bool.or_false, Bool.or_true, Bool.false_eq_true, Bool.not_true, Bool.not_false, Bool.true_and, Bool.and_true, decide_eq_true_eq, isNon]), execs_nil]), execs_nil]
  · rw [e]
    have w := L.wr a b 2 hF ha hb (by decide)
    rw [show ((2 : Nat) : Int) = 2 from rfl] at w
    rw [seq_nx (ρ' := [a0, a1, a2, a3, .own (.lst (acc ++ [fr a b])), .val (.str s), .val (fr a b), a7, a8, a9, a10]) (by
      rw [ex_iff_f (by simp only [execs_nil, execs_cons, nxt_nx, nxt_ret, fin_nx, fin_ret, exec, ev, evs, evL_L, ret_bd, pur_bd, fai_bd, thr_bd, pur_ret, opS, opN, bd_bd, ite_bd, opIf, gs0, gs1, gs2, gs3, gs4, gs5, gs6, gs7, gs8, gs9, gs10, ss0, ss1, ss2, ss3, ss4, ss5, ss6, ss7, ss8, ss9, ss10, setTg, setTgs, Option.bind_some, Option.map_some, Option.map_none, truth, truthD, cmpD, cmpP, eqD, binP, isiM, isiAny, isiD, b1M, b1P, b2P, ixM, ixP, mkC_call, mkC_dfl, mkC_glo, mkC_sup, List.map, List.replicate, List.cons_append, List.nil_append, List.append_nil, Nat.reduceSub, List.reduceReplicate, Int.reduceLT, Int.reduceLE, Int.reduceEq, if_true, if_false, Bool.or_false, Bool.or_true, Bool.false_eq_true, Bool.not_true, Bool.not_false, Bool.true_and, Bool.and_true, decide_eq_true_eq, isNon, d4, w]), execs_nil]), execs_nil]
theorem law_loop {C : Cfg} {ns : List Int} (L : LawC C ns) : ∀ (ws : List (List Nat)) (acc : List D) (x5 x6 : Sl), (∀ s ∈ ws, s.length + 2 ≤ line) → acc.length + ws.length ≤ line →
    ∃ y5 y6, forM (setTg (.n 5)) (execs C lawBody) (ws.map D.str) [a0, a1, a2, a3, .own (.lst acc), x5, x6, a7, a8, a9, a10] = M.ret (.nx, [a0, a1, a2, a3, .own (.lst (acc ++ ws.map fracD)), y5, y6, a7, a8, a9, a10])
  | [], acc, x5, x6, _, _ => ⟨x5, x6, by rw [List.map_nil, forM_nil, List.map_nil, List.append_nil]⟩
  | s :: ws, acc, x5, x6, hw, hl => by
    rw [List.length_cons] at hl
    obtain ⟨y5, y6, e⟩ := law_loop L ws (acc ++ [fracD s]) (.val (.str s)) (.val (fracD s)) (fun v hv => hw v (List.mem_cons_of_mem _ hv)) (by rw [List.length_append, List.length_singleton]; omega)
    refine ⟨y5, y6, ?_⟩
    rw [List.map_cons, forM_nx (ρ1 := [a0, a1, a2, a3, .own (.lst acc), .val (.str s), x6, a7, a8, a9, a10]) (show (setSl _ 5 _) = _ from ss5) (law_turn L (hw s List.mem_cons_self) (by omega)), e]
    rw [List.append_assoc]
    rfl
end PL.k71
end
section
set_option Elab.async false
set_option linter.all false
set_option maxRecDepth 100000
/-! K71D8: the plain law. -/
namespace PL.k71
open PySem PL
open SX _root_.TL
theorem isF_1 (m : Int) : isF m 1 = true := isF_iff.mpr ⟨Int.le_refl 1, Int.gcd_one_right m⟩
theorem isF_d {m : Int} (h : 1 ≤ m) : isF 1 m = true ∧ isF (-1) m = true := ⟨isF_iff.mpr ⟨h, Int.gcd_one_left m⟩, isF_iff.mpr ⟨h, by rw [Int.neg_gcd, Int.gcd_one_left]⟩⟩
theorem one_N : 1 < N40 := Nat.lt_trans (by decide) N40_big
theorem fzH {C : Cfg} {l : Ex} {ρ : PL.Env} {ds : List D} {h h1 : Hs} (e : evL C l ρ h = .ok ds h1) : ev C (.fz l) ρ h = .ok (.lst ds) h1 := by
  rw [ev, bndH e]
  rfl
theorem catH {C : Cfg} {a b : Ex} {ρ : PL.Env} {xs ys : List D} {h h1 h2 : Hs} (ea : ev C a ρ h = .ok (.lst xs) h1) (eb : ev C b ρ h1 = .ok (.lst ys) h2) (hl : xs.length + ys.length ≤ line) : ev C (.fz (.Lcat a b)) ρ h = .ok (.lst (xs ++ ys)) h2 := by
  refine fzH ?_
  rw [evL_cat, bndH ea, bndH eb]
  show (if xs.length + ys.length ≤ line then (pure (xs ++ ys) : M (List D)) else M.fail) h2 = _
  rw [if_pos hl]
  rfl
/-- the four bounds and their like -/
def evens : List PL.St := [.set 9 (.b2 .max (.c (.int 1)) (.b1 .abs (.call 161 0 [(.v 1)]))),
  .set 10 (.call 224 0 [(.v 1), (.fz (.L [(.tup [(.v 9), (.c (.int 1))]), (.tup [(.neg (.v 9)), (.c (.int 1))]), (.tup [(.c (.int 1)), (.v 9)]), (.tup [(.neg (.c (.int 1))), (.v 9)])]))]),
  .iff (.or_ (.not_ (.call 331 0 [(.call 191 0 [(.call 161 0 [(.v 1)]), (.v 9)]), (.c (.int 6))])) (.not_ (.call 331 0 [(.v 10), (.c (.int 8))]))) [.ret (.c (.bl false))] []]
theorem law_evens {C : Cfg} {ns : List Int} (L : LawC C ns) {s0 s2 s3 s4 s5 s6 s7 s8 s9 s10 : Sl} {B : Nat} {h : Hs} (hs : Sto 0 B h) (hB : B + 7 ≤ 2 ^ 60) :
    ∃ y9 y10 h', execs C evens [s0, .val (.ref 0), s2, s3, s4, s5, s6, s7, s8, s9, s10] h = .ok (.nx, [s0, .val (.ref 0), s2, s3, s4, s5, s6, s7, s8, y9, y10]) h' ∧ Sto 0 (B + 7) h' := by
  have ln : ∀ j : Nat, j ≤ 100 → j ≤ line := fun j hj => by rw [hline]; omega
  have d1 := L.d 161 (by decide)
  have d2 := L.d 224 (by decide)
  have d3 := L.d 331 (by decide)
  have d4 := L.d 191 (by decide)
  obtain ⟨z, h1, e1, hz, r1⟩ := L.gt B h hs (by omega)
  generalize hm : (if (z.natAbs : Int) > 1 then (z.natAbs : Int) else 1) = m
  have m1 : 1 ≤ m := by rw [← hm]; split <;> omega
  have mN : m.natAbs < N40 := by
    have := one_N
    rw [← hm]; split <;> omega
  obtain ⟨x, h2, e2, hx, r2⟩ := L.pk (B + 3) [fr m 1, fr (-m) 1, fr 1 m, fr (-1) m] h1 (by simp) (by simp) r1 (by omega)
  have wx : C.call 331 [x, .int 8] = M.ret (.bl true) := by
    have i1 := isF_d m1
    simp only [List.mem_cons, List.not_mem_nil, or_false] at hx
    rcases hx with rfl | rfl | rfl | rfl
    · exact L.wr m 1 8 (isF_1 _) mN one_N (by decide)
    · exact L.wr (-m) 1 8 (isF_1 _) (by rw [Int.natAbs_neg]; exact mN) one_N (by decide)
    · exact L.wr 1 m 8 i1.1 one_N mN (by decide)
    · exact L.wr (-1) m 8 i1.2 one_N mN (by decide)
  obtain ⟨u, h3, e3, hu, r3⟩ := L.gt (B + 4) h2 r2 (by omega)
  obtain ⟨p, q, el, hpq, hp, hq⟩ := low_FrD (x := u) m1 hu mN
  have l1 := L.ll u m m1 mN
  rw [el] at l1
  have wl : C.call 331 [fr p q, .int 6] = M.ret (.bl true) := L.wr p q 6 hpq hp hq (by decide)
  refine ⟨.val (.int m), .val x, h3, ?_, r3⟩
  unfold evens
  rw [seqH_nx (ex_setH (d := .int m) (ρ' := [s0, .val (.ref 0), s2, s3, s4, s5, s6, s7, s8, .val (.int m), s10]) (h' := h1) (by
      rw [ev, ev, ret_bd, ev, bd_bd, bndH (callH d1 (evscH (vH gs1) evs0H) e1)]
      rw [← hm]
      rfl) ss9),
    seqH_nx (ex_setH (d := x) (ρ' := [s0, .val (.ref 0), s2, s3, s4, s5, s6, s7, s8, .val (.int m), .val x]) (h' := h2) (callH d2 (evscH (vH gs1) (evscH (fzLH
      (evscH (tupH (evscH (vH gs9) (evscH cH evs0H)) (ln 2 (by decide)))
        (evscH (tupH (evscH (d := .int (-m)) (by rw [ev, ev, gs9]; rfl) (evscH cH evs0H)) (ln 2 (by decide)))
          (evscH (tupH (evscH cH (evscH (vH gs9) evs0H)) (ln 2 (by decide)))
            (evscH (tupH (evscH (d := .int (-1)) (by rw [ev, ev]; rfl) (evscH (vH gs9) evs0H)) (ln 2 (by decide))) evs0H)))) (ln 4 (by decide))) evs0H)) e2) ss10),
    seqH_nx (ρ' := [s0, .val (.ref 0), s2, s3, s4, s5, s6, s7, s8, .val (.int m), .val x]) (h' := h3) (by
      rw [exH_f (orH_f (notH_t (callH d3 (evscH (callH d4 (evscH (callH d1 (evscH (vH gs1) evs0H) e3) (evscH (vH gs9) evs0H)) (by rw [l1]; rfl)) (evscH cH evs0H)) (by rw [wl]; rfl)))
        (notH_t (callH d3 (evscH (vH gs10) (evscH cH evs0H)) (by rw [wx]; rfl)))), execs_nil]
      rfl), execs_nil]
  rfl
theorem words_H {C : Cfg} {ns : List Int} (L : LawC C ns) {s0 s2 s4 s5 s6 s7 s8 s9 s10 : Sl} {B : Nat} {h : Hs} (hs : Sto 0 B h) (hB : B + 2400 ≤ 2 ^ 60) :
    ∃ (ws : List (List Nat)) (h' : Hs), evL C (.Lc [3] (.n 3) (.Ir1 (.c (.int 8))) (.c (.bl true)) (.call 321 0 [(.v 1)])) [s0, .val (.ref 0), s2, .non, s4, s5, s6, s7, s8, s9, s10] h = .ok (ws.map D.str) h' ∧ ws.length = 8 ∧ (∀ w ∈ ws, w.length ≤ 40000) ∧ Sto 0 (B + 2400) h' := by
  have d1 := L.d 321 (by decide)
  obtain ⟨ws, h', e, l, hw, s1⟩ := compL_words (turn := fun x => M.tot (turnC [3] (.n 3) (ev C (.c (.bl true))) (ev C (.call 321 0 [(.v 1)])) [s0, .val (.ref 0), s2, .non, s4, s5, s6, s7, s8, s9, s10] x)) (n := 0) (fun x B h hs hB => by
    obtain ⟨w, h', e, lw, s1⟩ := L.wd B h hs hB
    refine ⟨w, h', totH ?_, lw, s1⟩
    unfold turnC
    have e0 : setTg (.n 3) x (wipeE [s0, .val (.ref 0), s2, .non, s4, s5, s6, s7, s8, s9, s10] [3]) = some [s0, .val (.ref 0), s2, .val x, s4, s5, s6, s7, s8, s9, s10] := ss3
    rw [e0, opS, ret_bd, ev, ret_bd, truth_bl, if_pos rfl, bndH (callH d1 (evscH (vH gs1) evs0H) e)]
    rfl) (rngD 0 8) [] B h hs (by show B + 300 * 8 ≤ _; omega) (by rw [hline]; decide) (fun w hw => absurd hw List.not_mem_nil)
  refine ⟨ws, h', ?_, l, hw, s1⟩
  rw [evL, evI_r1 (n := 8) (by rw [ev]) (rng_small (n := 8) (by decide)), ret_bd]
  exact e
theorem law_all (ns : List Int) (hl : ns.length ≤ 63) : ∃ h', callF pg 14 445 [.scr ns] h0 = .ok (.bl true) h' := by
  rw [callS (k := 13) (d := ⟨1, 11, ir445⟩) rfl rfl]
  have L := law_c ns hl
  generalize mkC pg (callF pg 13) = C at L ⊢
  have ln : ∀ j : Nat, j ≤ 100 → j ≤ line := fun j hj => by rw [hline]; omega
  have d1 := L.d 290 (by decide)
  have d2 := L.d 331 (by decide)
  have d3 := L.d 154 (by decide)
  have d4 := L.d 161 (by decide)
  have d5 := L.d 190 (by decide)
  have d6 := L.d 260 (by decide)
  have d7 := L.d 406 (by decide)
  have d8 := L.d 251 (by decide)
  have d9 := L.d 294 (by decide)
  obtain ⟨g1, e1, r1⟩ := L.st
  obtain ⟨x, g2, e2, ⟨a, b, rfl, hF, ha, hb⟩, r2⟩ := L.fw 0 g1 r1 (by decide)
  have w1 : C.call 331 [fr a b, .int 2] = M.ret (.bl true) := L.wr a b 2 hF ha hb (by decide)
  obtain ⟨z, g3, e3, hz, r3⟩ := L.gt _ g2 r2 (by decide)
  have w2 : C.call 331 [fr z 1, .int 2] = M.ret (.bl true) := L.wr z 1 2 (isF_1 z) hz one_N (by decide)
  obtain ⟨ws, g4, e4, l4, hw, r4⟩ := words_H L (s0 := .val (.scr ns)) (s2 := .non) (s4 := .non) (s5 := .non) (s6 := .non) (s7 := .non) (s8 := .non) (s9 := .non) (s10 := .non) r3 (by decide)
  have hw2 : ∀ s ∈ ws ++ [[]], s.length + 2 ≤ line := fun s hs => by
    rw [hline]
    rcases List.mem_append.mp hs with hs | hs
    · have := hw s hs; omega
    · rw [List.mem_singleton.mp hs]; decide
  generalize hW : (ws ++ [[]]).map D.str = W
  have lW : (ws ++ [[]]).length = 9 := by rw [List.length_append, l4]; rfl
  obtain ⟨y5, y6, eL⟩ := law_loop L (ws ++ [[]]) [] .non .non (a0 := .val (.scr ns)) (a1 := .val (.ref 0)) (a2 := .val (.lst W)) (a3 := .non) (a7 := .non) (a8 := .non) (a9 := .non) (a10 := .non) hw2 (by rw [lW]; exact ln _ (by decide))
  rw [hW, List.nil_append] at eL
  generalize hG : (ws ++ [[]]).map fracD = G at eL
  have lG : G.length = 9 := by rw [← hG, List.length_map, lW]
  have pG : Pl 2 (.lst G) := .lst (fun d hd => by
    rw [← hG] at hd
    obtain ⟨s, _, rfl⟩ := List.mem_map.mp hd
    exact pl_frac s) (by rw [lG]; decide)
  obtain ⟨v, g5, e5, ⟨p, q, rfl, hF2, hp, hq⟩, r5⟩ := L.fw _ g4 r4 (by decide)
  obtain ⟨w, g6, e6, fw, lw, r6⟩ := L.lw _ p q g5 hF2 hp hq r5 (by decide)
  have f6 := L.fo w (by rw [hline]; omega)
  rw [fw] at f6
  have s6 := L.s1 _ (pl_fr (x := p) (y := q))
  obtain ⟨g7, e7, r7⟩ := L.rf _ g6 r6 (by decide)
  obtain ⟨t, g8, e8, t0, t1, r8⟩ := L.T _ 4 g7 r7 (by decide) (small190 (by decide))
  obtain ⟨y9, y10, g9, e9⟩ : ∃ y9 y10 g9, exec C (.iff (.cmp .Eq (.call 294 0 [(.v 1), (.c (.int 4))]) (.c (.int 0))) evens []) [.val (.scr ns), .val (.ref 0), .val (.lst W), .non, .own (.lst G), y5, y6, .val (fr p q), .val (.str w), .non, .non] g7 =
      .ok (.nx, [.val (.scr ns), .val (.ref 0), .val (.lst W), .non, .own (.lst G), y5, y6, .val (fr p q), .val (.str w), y9, y10]) g9 := by
    have et : ev C (.cmp .Eq (.call 294 0 [(.v 1), (.c (.int 4))]) (.c (.int 0))) [.val (.scr ns), .val (.ref 0), .val (.lst W), .non, .own (.lst G), y5, y6, .val (fr p q), .val (.str w), .non, .non] g7 = .ok (.bl (t == 0)) g8 := by
      rw [ev, bndH (callH d9 (evscH (vH gs1) (evscH cH evs0H)) e8), ev]
      rfl
    by_cases h0 : t = 0
    · obtain ⟨y9, y10, g9, e, _⟩ := law_evens L (s0 := .val (.scr ns)) (s2 := .val (.lst W)) (s3 := .non) (s4 := .own (.lst G)) (s5 := y5) (s6 := y6) (s7 := .val (fr p q)) (s8 := .val (.str w)) (s9 := .non) (s10 := .non) r8 (by decide)
      refine ⟨y9, y10, g9, ?_⟩
      rw [exH_t (by rw [et, h0]; rfl), e]
    · refine ⟨.non, .non, g8, ?_⟩
      rw [exH_f (by rw [et, show (t == 0) = false from beq_false_of_ne h0]), execs_nil]
      rfl
  have sm := L.sm _ pG
  have ec : evL C (.Lc [5] (.n 5) (.Il (.v 2)) (.c (.bl true)) (.call 406 0 [(.v 5)])) [.val (.scr ns), .val (.ref 0), .val (.lst W), .non, .val (.lst G), y5, y6, .val (fr p q), .val (.str w), y9, y10] = M.ret G := by
    rw [evL, evI, ev, gs2, ret_bd]
    show (M.opt (some W) >>= _) = _
    rw [opS, ret_bd]
    have key := compL_pure (turn := fun x => M.tot (turnC [5] (.n 5) (ev C (.c (.bl true))) (ev C (.call 406 0 [(.v 5)])) [.val (.scr ns), .val (.ref 0), .val (.lst W), .non, .val (.lst G), y5, y6, .val (fr p q), .val (.str w), y9, y10] x)) (g := fun d => match d with | .str s => fracD s | _ => .non) W [] (fun x hx => by
      rw [← hW] at hx
      obtain ⟨s, hs, rfl⟩ := List.mem_map.mp hx
      have f := L.fo s (Nat.le_trans (Nat.le_add_right _ _) (hw2 s hs))
      unfold turnC
      have e0 : setTg (.n 5) (.str s) (wipeE [.val (.scr ns), .val (.ref 0), .val (.lst W), .non, .val (.lst G), y5, y6, .val (fr p q), .val (.str w), y9, y10] [5]) = some [.val (.scr ns), .val (.ref 0), .val (.lst W), .non, .val (.lst G), .val (.str s), y6, .val (fr p q), .val (.str w), y9, y10] := ss5
      rw [e0, opS, ret_bd, ev, ret_bd, truth_bl, if_pos rfl, ev_call (ds := [.str s]) (r := M.ret (fracD s)) (by rw [evs, ev, gs5, ret_bd, evs]; rfl) (by rw [d7, List.append_nil]; exact f)]
      rfl) (by rw [← hW, List.length_map, lW]; exact ln _ (by decide))
    rw [key, List.nil_append, ← hW, List.map_map, ← hG]
    rfl
  refine ⟨g9, finR (ρ' := [.val (.scr ns), .val (.ref 0), .val (.lst W), .non, .val (.lst G), y5, y6, .val (fr p q), .val (.str w), y9, y10]) ?_⟩
  show execs C ir445 [.val (.scr ns), .non, .non, .non, .non, .non, .non, .non, .non, .non, .non] h0 = _
  unfold ir445
  rw [seqH_nx (ex_setH (d := .ref 0) (ρ' := [.val (.scr ns), .val (.ref 0), .non, .non, .non, .non, .non, .non, .non, .non, .non]) (h' := g1) (callH d1 (evscH (vH gs0) evs0H) e1) ss1),
    seqH_nx (ρ' := [.val (.scr ns), .val (.ref 0), .non, .non, .non, .non, .non, .non, .non, .non, .non]) (h' := g3) (by
      rw [exH_f (orH_f (notH_t (callH d2 (evscH (callH d3 (evscH (vH gs1) evs0H) e2) (evscH cH evs0H)) (by rw [w1]; rfl)))
        (notH_t (callH d2 (evscH (tupH (evscH (callH d4 (evscH (vH gs1) evs0H) e3) (evscH cH evs0H)) (ln 2 (by decide))) (evscH cH evs0H)) (by rw [w2]; rfl)))), execs_nil]
      rfl),
    seqH_nx (ex_setH (d := .lst W) (ρ' := [.val (.scr ns), .val (.ref 0), .val (.lst W), .non, .non, .non, .non, .non, .non, .non, .non]) (h' := g4) (by
      have ea := catH (fzH e4) (fzLH (C := C) (es := [.c (.str [])]) (evscH cH evs0H) (ln 1 (by decide))) (by rw [List.length_map, l4]; exact ln 9 (by decide))
      rw [ea, ← hW, List.map_append]
      rfl) ss2),
    seqH_nx (ρ' := [.val (.scr ns), .val (.ref 0), .val (.lst W), .non, .own (.lst []), .non, .non, .non, .non, .non, .non]) (h' := g4) (by
      rw [exec, evL_L, evs]
      rfl),
    seqH_nx (ρ' := [.val (.scr ns), .val (.ref 0), .val (.lst W), .non, .own (.lst G), y5, y6, .non, .non, .non, .non]) (h' := g4) (by
      show exec C (.fr (.n 5) (.Il (.v 2)) lawBody) _ g4 = _
      rw [ex_fr (xs := W) (by rw [evI, ev, gs2]; rfl) eL]
      rfl),
    seqH_nx (ex_setH (d := fr p q) (ρ' := [.val (.scr ns), .val (.ref 0), .val (.lst W), .non, .own (.lst G), y5, y6, .val (fr p q), .non, .non, .non]) (h' := g5) (callH d3 (evscH (vH gs1) evs0H) e5) ss7),
    seqH_nx (ex_setH (d := .str w) (ρ' := [.val (.scr ns), .val (.ref 0), .val (.lst W), .non, .own (.lst G), y5, y6, .val (fr p q), .val (.str w), .non, .non]) (h' := g6) (callH d5 (evscH (vH gs1) (evscH (vH gs7) evs0H)) e6) ss8),
    seqH_nx (ρ' := [.val (.scr ns), .val (.ref 0), .val (.lst W), .non, .own (.lst G), y5, y6, .val (fr p q), .val (.str w), .non, .non]) (h' := g7) (by
      rw [exH_f (orH_f (notH_t (callH d6 (evscH (callH d7 (evscH (vH gs8) evs0H) (by rw [f6]; rfl)) (evscH (vH gs7) evs0H)) (by rw [s6]; rfl)))
        (notH_t (callH d8 (evscH (vH gs1) evs0H) e7))), execs_nil]
      rfl),
    seqH_nx (by unfold evens at e9; exact e9),
    seqH_nx (ρ' := [.val (.scr ns), .val (.ref 0), .val (.lst W), .non, .val (.lst G), y5, y6, .val (fr p q), .val (.str w), y9, y10]) (h' := g9) (by rw [exec]; rfl)]
  refine seqH_ret (ex_retH (callH d6 (evscH (d := .lst G) (by rw [ev, ec]; rfl) (evscH (vH gs4) evs0H)) (by rw [sm]; rfl)))
theorem plain (ns : List Int) (hl : ns.length ≤ 63) (_ : ∀ z ∈ ns, Builtin.Int.intBits z ≤ 1048576) : PL.Out (PL.callF pg 14 445 [.scr ns] PL.h0) (fun d _ => d = .bl true) fun _ _ => False := by
  obtain ⟨h', e⟩ := law_all ns hl
  rw [e]
  rfl
end PL.k71
end
open PySem PySem.W PyProof.Rows
set_option Elab.async false
set_option maxRecDepth 100000 in
set_option maxHeartbeats 8000000 in
theorem PySem.Challenge.cw_wheelsky_k71_fraction_words_holds : PySem.Challenge.rw_wheelsky_k71_fraction_words.Holds := by
  exact PL.k71.ends PL.k71.plain
