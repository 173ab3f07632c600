import PyProof.Rows.All
import Wide.All
import OpenK.AllK
import Wide.FinOn
import HandS.ForMost
import KE.DataEq
import HandS.ForExc
import HandS.Lambda
import HandS.Property
import PyProof.InstNe
import HandS.TupAny
import HandS.TupLe
import HandS.Wide
import HandS.IsInst
import HandS.ExcInit
import HandS.ExcField
import KE.KExcSuper
import KE.KExcIs
import KE.KEqNest
import HandS.Text
import HandS.List
import KE.DataMinMax
import HandS.Conv
import KE.KCallOwn
import HandS.TryOnly
import HandS.Iter
import HandS.Comp
import HandS.Style
import HandS.ExcValue
import HandS.Nested
import HandS.Dict
import PyProof.LongRange
import PyProof.ListRange
import HandS.StrMore
import HandS.Star
import HandS.FStr
import HandS.Defaults
import HandS.HeadHook1
import HandS.HeadHook2
import HandS.Ends
import HandS.HeadEnd
import HandS.Head0
import HandS.Head1
import HandS.Head2
import PyProof.StrLawsAffix
import PyProof.Rows.StrDigitsNeg
import KE.IntTextLaws
import KE.KStateDown
import Lean
import PySem.Challenge.RW_turnedtunes_k02_texts_of_ties
set_option Elab.async false
set_option linter.all false
namespace Tn
open PySem L2

/-! ### data -/
inductive D where
  | non | bl (b : Bool) | int (i : Int) | str (x : Str)
  | tup (l : List D) | lst (l : List D)
  | dic (l : List (Key × D))
  | ins (c : Nat) (l : List D)
  | exn (c : Nat) (x : D)
  | scr (l : List Int)
inductive W where
  | d (x : D) | r (i : Nat) | lam (k : Nat) (l : List W)
inductive MO where
  | lst (l : List W) | dic (l : List (Key × W)) | ins (c : Nat) (l : List (Nat × W))
abbrev Mu := List MO
abbrev Env := List (Option W)
inductive Res (α : Type) where
  | ok (a : α) (m : Mu) | exc (c : Nat) (x : D) (m : Mu) | stuck
abbrev M (α : Type) := Mu → Res α
@[reducible] def M.ret {α : Type} (a : α) : M α := fun m => .ok a m
def M.bind {α β : Type} (f : M α) (g : α → M β) : M β := fun m => match f m with
  | .ok a m1 => g a m1
  | .exc c x m1 => .exc c x m1
  | .stuck => .stuck
@[reducible] def M.no {α : Type} : M α := fun _ => .stuck
/-- no exception may leave (a comprehension's block) -/
def M.calm {α : Type} (f : M α) : M α := fun m => match f m with
  | .exc _ _ _ => .stuck
  | r => r
def M.opt {α : Type} : Option α → M α
  | some a => M.ret a
  | none => M.no
inductive Out where
  | nx (e : Env) (m : Mu) | rt (w : W) (m : Mu) | bk (e : Env) (m : Mu) | ct (e : Env) (m : Mu) | ex (c : Nat) (x : D) (e : Env) (m : Mu) | st

/-! ### the written form -/
inductive Tg where
  | nm (i : Nat) | tp (l : List Nat)
inductive BF where
  | len | abs | int | str | repr | max | min | all | lst | tup | lrng
  deriving DecidableEq
/-- methods of texts -/
inductive SM where
  | join | split | rmp | stw | rpl | upp
  deriving DecidableEq
/-- a class that isinstance asks for -/
inductive Ct where
  | int | bool | str | tup | lst | dic | own (c : Nat) | exc (c : Nat) | ve
  deriving DecidableEq
mutual
inductive E where
  | var (i : Nat)
  | cst (d : D)
  | glo (g : Nat)
  | bin (op : Operator) (a b : E)
  | neg (a : E) | inv (a : E)
  | cmp (op : CmpOp) (a b : E)
  | chn (o1 o2 : CmpOp) (a b c : E)
  | and (l : Es) | or (l : Es) | not (a : E)
  | ite (c a b : E)
  | tup (l : Es) | lst (l : Es)
  | atr (a : E) (f : Nat)
  | sub (a i : E)
  | slc (a : E) (lo hi : Oe)
  | call (g : Nat) (l : Es) (ks : List Nat) (lk : Es)
  | mth (a : E) (m : Nat) (l : Es)
  | cal (i : Nat) (l : Es)
  | blt (b : BF) (l : Es)
  | isi (a : E) (c : Ct) (g : Nat)
  | lc (e : E) (t : Tg) (i : It) (c : Oe) (own : List Nat)
  | lrg (a : E)
  | lcal (i : Nat)
  | clam (g k : Nat) (caps : List Nat) (l : Es)
  | dic (ks : List Str) (l : Es)
  | lrg2 (a b : E)
  | mkx (g : Nat) (a : E)
  | lcr (e : E) (t : Tg) (j : Nat) (c : Oe) (own : List Nat)
  | sm (k : SM) (a : E) (l : Es)
  | std (tp : Bool) (fl : List Bool) (l : Es)
  | smc (g f : Nat) (l : Es)
  | fst (l : Es)
  | dc1 (x : Str) (a : E)
  | any
inductive Es where
  | nil | cons (e : E) (r : Es)
inductive Oe where
  | no | yes (e : E)
inductive It where
  | seq (e : E) | rng1 (a : E) | rng2 (a b : E) | enum (e : E)
end
mutual
inductive S where
  | pass
  | exp (e : E)
  | asg (t : Tg) (e : E)
  | par (l : List Nat) (es : Es)
  | new (i : Nat) (es : Es)
  | setf (a : E) (f : Nat) (e : E)
  | seti (a i e : E)
  | app (a e : E)
  | ext (a e : E)
  | ite (c : E) (t e : Ss)
  | ret (e : E) | retN | rnw (es : Es) | any
  | fo (t : Tg) (i : It) (b : Ss)
  | foe (t : Tg) (a : E) (b : Ss)
  | wh (c : E) (b : Ss)
  | brk | cont
  | rse (g : Nat) (e : E)
  | tr (b : Ss) (g : Nat) (i : Option Nat) (h : Ss)
inductive Ss where
  | nil | cons (s : S) (r : Ss)
end

def Es.len : Es → Nat
  | .nil => 0
  | .cons _ r => r.len + 1
/-! ### small operations -/
def Sm (i : Int) : Bool := decide (i.natAbs < 2 ^ 1900)
def keyP : Key → PyData
  | .inl i => .int i
  | .inr z => .str z
def keyB : Key → Nat
  | .inl i => bif Sm i then 2000 else 100000000
  | .inr z => 10 * z.length + 2
mutual
def D.py : D → Option PyData
  | .non => some .none
  | .bl b => some (.bool b)
  | .int i => some (.int i)
  | .str x => some (.str x)
  | .tup l => (D.pys l).map .tuple
  | .lst l => (D.pys l).map .list
  | .dic l => (D.pyk l).map .dict
  | .ins _ _ => none
  | .exn _ _ => none
  | .scr _ => none
def D.pys : List D → Option (List PyData)
  | [] => some []
  | x :: r => match x.py, D.pys r with
    | some y, some s => some (y :: s)
    | _, _ => none
def D.pyk : List (Key × D) → Option (List (PyData × PyData))
  | [] => some []
  | (k, x) :: r => match x.py, D.pyk r with
    | some y, some s => some ((keyP k, y) :: s)
    | _, _ => none
end
mutual
def D.bnd : D → Nat
  | .non => 4
  | .bl _ => 5
  | .int i => bif Sm i then 2000 else 100000000
  | .str x => 10 * x.length + 2
  | .tup l => D.bnds l + 3
  | .lst l => D.bnds l + 3
  | .dic l => D.bndk l + 3
  | .ins _ _ => 100000000
  | .exn _ _ => 100000000
  | .scr _ => 100000000
def D.bnds : List D → Nat
  | [] => 0
  | x :: r => x.bnd + 2 + D.bnds r
def D.bndk : List (Key × D) → Nat
  | [] => 0
  | (k, x) :: r => keyB k + x.bnd + 4 + D.bndk r
end
def strTop : Nat := 4000000
def reprD (d : D) : Option D := match d.py with
  | some p => bif decide (d.bnd ≤ strTop) && decide (p.depth ≤ 64) then some (.str p.shown) else none
  | none => none
def truth (m : Mu) : W → Option Bool
  | .d .non => some false
  | .d (.bl b) => some b
  | .d (.int i) => some (i != 0)
  | .d (.str x) => some ((x.length : Int) != 0)
  | .d (.tup l) => some (!l.isEmpty)
  | .d (.lst l) => some (!l.isEmpty)
  | _ => none
/-- a value's truth, computed -/
def tru (x : W) : M Bool := fun m => M.opt (truth m x) m
def shp (p : PyData) : Bool := p.plain && decide (p.depth ≤ 64)
/-- == of plain data -/
def eqQ (a b : D) : Option Bool := match a.py, b.py with
  | some p, some q => bif shp p && shp q then some (PyData.eqv p q) else none
  | _, _ => none
def eqP (a b : D) : Option Bool := match a, b with
  | .str x, .str y => some (x == y)
  | .lst l, .lst r => bif l.length != r.length then some false else eqQ (.lst l) (.lst r)
  | a, b => eqQ a b
def inL (a : D) : List D → Option Bool
  | [] => some false
  | b :: r => match eqP a b with
    | some true => some true
    | some false => inL a r
    | none => none
def leafQ (a b : D) : Option Bool := match a.py, b.py with
  | some p, some q => bif (p.plain && q.plain) && decide (p.depth ≤ 30) then some (PyData.eqv p q) else none
  | _, _ => none
def eqTs (f : D → D → Option Bool) : List D → List D → Option Bool
  | [], [] => some true
  | a :: l, b :: r => match f a b, eqTs f l r with
    | some x, some y => some (x && y)
    | _, _ => none
  | _, _ => none
/-- == of any data without objects -/
def eqT : Nat → D → D → Option Bool
  | 0, _, _ => none
  | n + 1, a, b => match leafQ a b with
    | some k => some k
    | none => match a, b with
      | .lst l, .lst r => bif l.length != r.length then some false else eqTs (eqT n) l r
      | .tup l, .tup r => bif l.length != r.length then none else eqTs (eqT n) l r
      | .dic [], .dic [] => some true
      | .dic [(.inr x, v)], .dic [(.inr y, w)] => bif x == y then eqT n v w else none
      | _, _ => none
def eqE (a b : D) : Option Bool := match eqP a b with
  | some k => some k
  | none => eqT 20 a b
/-- x in l, plain data -/
def inQ (a : D) (l : List D) : Option Bool := match a.py, D.pys l with
  | some p, some qs => bif shp p && (PyData.plainAll qs && decide (PyData.depthAll qs ≤ 32)) then some (qs.any fun q => PyData.eqv q p) else none
  | _, _ => none
def inD (a b : D) : Option Bool := match b with
  | .str z => (match a with
    | .str x => (match x.cps.toList with
      | [c] => some (decide (c ∈ z.cps.toList))
      | _ => none)
    | _ => none)
  | .lst l => inQ a l
  | .tup l => inQ a l
  | _ => none
def sOkB (x : Str) : Bool := decide (x.length ≤ strTop) && x.cps.toList.all fun c => decide (c < 16 ^ 8)
def allS : List D → Option (List Str)
  | [] => some []
  | .str x :: r => (allS r).map (x :: ·)
  | _ => none
def joinB (a : Str) (ys : List Str) : Bool := decide ((ys.map (·.length)).sum + ys.length * a.length ≤ strTop)
def strOf : W → Option Str
  | .d (.str x) => some x
  | _ => none
def smD (k : SM) (x : Str) (ws : List W) : Option W := match k, ws with
  | .join, [.d (.lst l)] => (allS l).bind fun ys => bif joinB x ys then some (.d (.str (Txt.join x ys))) else none
  | .join, [.d (.tup l)] => (allS l).bind fun ys => bif joinB x ys then some (.d (.str (Txt.join x ys))) else none
  | .split, [.d (.str b)] => bif b.length != 0 && b.cps.all (· < 256) then some (.d (.lst ((Txt.split x b).map D.str))) else none
  | .rmp, [.d (.str b)] => bif sOkB (Txt.removeprefix x b) then some (.d (.str (Txt.removeprefix x b))) else none
  | .stw, [.d (.str b)] => some (.d (.bl (Txt.startswith x b)))
  | .rpl, [.d (.str b), .d (.str _)] => bif (Builtin.Str.occurrences x b 0 x.length (x.length + 1)).isEmpty then some (.d (.str x)) else none
  | .upp, [] => bif sOkB (Txt.upper x) then some (.d (.str (Txt.upper x))) else none
  | _, _ => none
def fmtS : W → Option Str
  | .d (.str x) => some x
  | .d (.int i) => bif Sm i then some (toString i) else none
  | _ => none
def fmts : List W → Option (List Str)
  | [] => some []
  | w :: r => match fmtS w, fmts r with
    | some x, some l => some (x :: l)
    | _, _ => none
def catS (l : List Str) : Str := l.foldl (· ++ ·) Str.empty
def fstD (ws : List W) : Option W := (fmts ws).bind fun ys => bif decide ((ys.map (·.length)).sum ≤ strTop) then some (.d (.str (catS ys))) else none
abbrev ix (n : Nat) (i : Int) : Option Nat := L2.ixN n i

/-! ### the program's tables -/
structure Cls where
  fields : List Nat
  props : List (Nat × Nat)
  meths : List (Nat × Nat)
  init : Nat
  stats : List (Nat × Nat) := []
structure Fn where
  np : Nat
  ns : Nat
  mode : Nat
  body : Ss
inductive Gk where
  | cst (d : D) | fn (f : Nat) | cls (c : Nat) | exc (c : Nat)
abbrev Fill := List (Sum Nat D)
structure Pg where
  fns : List Fn
  cls : List Cls
  glo : List Gk
  shp : List (Nat × Nat × List Nat × Fill)
  nx : Nat
/-- calls: of defs (this level), of what stands one level below -/
structure Call where
  hi : Nat → List W → M W
  lo : Nat → List W → M W
  rm : Bool
abbrev nEq : Nat := 0
abbrev nInvert : Nat := 1
abbrev nRshift : Nat := 2
abbrev nMul : Nat := 3
abbrev nCall : Nat := 4
abbrev nLen : Nat := 5
abbrev nGetitem : Nat := 6
abbrev nContains : Nat := 7
abbrev nAdd : Nat := 8
abbrev nOr : Nat := 9
abbrev nNeg : Nat := 10
abbrev nValue : Nat := 11

def fillWith (ws : List W) : Fill → Option (List W)
  | [] => some []
  | .inl j :: r => match ws[j]?, fillWith ws r with
    | some w, some l => some (w :: l)
    | _, _ => none
  | .inr d :: r => (fillWith ws r).map (.d d :: ·)
def Pg.fill (P : Pg) (g n : Nat) (ks : List Nat) : Option Fill := (P.shp.find? fun q => q.1 == g && (q.2.1 == n && q.2.2.1 == ks)).map (·.2.2.2)
def Pg.meth (P : Pg) (c m : Nat) : Option Nat := (P.cls[c]?).bind fun k => k.meths.lookup m
def Pg.stat (P : Pg) (c m : Nat) : Option Nat := (P.cls[c]?).bind fun k => k.stats.lookup m
def Pg.exAt (P : Pg) (g : Nat) : Nat := match P.glo[g]? with
  | some (.exc x) => x
  | _ => 0
def Pg.exSub (_ : Pg) (c c' : Nat) : Bool := c == c' || c' == 0
def idxOf (n : Nat) : List Nat → Option Nat
  | [] => none
  | m :: r => if n = m then some 0 else (idxOf n r).map (· + 1)

def W.noL : W → Bool
  | .d _ => true
  | .r _ => true
  | .lam _ _ => false
def MO.noL : MO → Bool
  | .lst l => l.all W.noL
  | .dic l => l.all fun q => q.2.noL
  | .ins _ l => l.all fun q => q.2.noL
/-- no function stands in what comes back -/
def nlR : Res W → Res W
  | .ok w m => bif w.noL && m.all MO.noL then .ok w m else .stuck
  | .exc c x m => bif m.all MO.noL then .exc c x m else .stuck
  | .stuck => .stuck
mutual
def W.under (n : Nat) : W → Bool
  | .d _ => true
  | .r i => decide (i < n)
  | .lam _ l => W.unders n l
def W.unders (n : Nat) : List W → Bool
  | [] => true
  | w :: l => w.under n && W.unders n l
end
def MO.under (n : Nat) : MO → Bool
  | .lst l => W.unders n l
  | .dic l => W.unders n (l.map (·.2))
  | .ins _ l => W.unders n (l.map (·.2))
/-- the objects that stood before, if they name none of the newer ones -/
def cutMu (n : Nat) (m : Mu) : Option Mu := bif (m.take n).all (MO.under n) then some (m.take n) else none
section
variable (P : Pg) (C : Call)

/-- the fields' data, in the class's order -/
def fieldsOf (fs : List (Nat × W)) : List Nat → Option (List D)
  | [] => some []
  | f :: r => match fs.lookup f, fieldsOf fs r with
    | some (.d x), some l => some (x :: l)
    | _, _ => none
/-- a new object of the class c -/
def mkObj (c : Nat) (args : List W) : M W := fun m => match P.cls[c]? with
  | some k => match C.lo k.init (.r m.length :: args) (m ++ [.ins c []]) with
    | .ok (.d .non) m1 => match m1[m.length]? with
      | some (.ins c1 fs) => match fieldsOf fs k.fields, cutMu m.length m1 with
        | some ds, some m2 => bif c1 == c && fs.all (fun q => k.fields.contains q.1) then .ok (.d (.ins c ds)) m2 else .stuck
        | _, _ => .stuck
      | _ => .stuck
    | .ok _ _ => .stuck
    | .exc x v m1 => (match cutMu m.length m1 with
      | some m2 => .exc x v m2
      | none => .stuck)
    | .stuck => .stuck
  | none => .stuck
def callG (g n : Nat) (ks : List Nat) (ws : List W) : M W := match P.glo[g]?, P.fill g n ks with
  | some (.fn f), some fl => match fillWith ws fl with
    | some l => C.hi f l
    | none => M.no
  | some (.cls c), some fl => match fillWith ws fl with
    | some l => mkObj P C c l
    | none => M.no
  | some (.exc c), _ => (match ws with
    | [.d x] => M.ret (.d (.exn c x))
    | _ => M.no)
  | _, _ => M.no
def attr (w : W) (f : Nat) : M W := fun m => match w with
  | .d (.ins c ds) => match P.cls[c]? with
    | some k => match idxOf f k.fields with
      | some i => M.opt ((ds[i]?).map .d) m
      | none => match k.props.lookup f with
        | some g => M.calm (C.lo g [.d (.ins c ds)]) m
        | none => .stuck
    | none => .stuck
  | .d (.exn c x) => bif decide (c < P.nx) && f == nValue then .ok (.d x) m else .stuck
  | .r i => match m[i]? with
    | some (.ins c fs) => match P.cls[c]? with
      | some k => (match fs.lookup f with
        | some w => bif k.fields.contains f then .ok w m else .stuck
        | none => match k.props.lookup f with
          | some g => M.calm (C.lo g [.r i]) m
          | none => .stuck)
      | none => .stuck
    | _ => .stuck
  | _ => .stuck
def methF (w : W) (n : Nat) : M Nat := fun m => match w with
  | .d (.ins c _) => M.opt (P.meth c n) m
  | .r i => match m[i]? with
    | some (.ins c fs) => bif (fs.lookup n).isNone then M.opt (P.meth c n) m else .stuck
    | _ => .stuck
  | _ => .stuck
def calF (w : W) : M Nat := match w with
  | .d (.ins c _) => M.opt (P.meth c nCall)
  | _ => M.no
/-- by a special method -/
def dund (c n : Nat) (args : List W) : M W := match P.meth c n with
  | some g => C.lo g args
  | none => M.no
def dunName : Operator → Option Nat
  | .RShift => some nRshift
  | .Mult => some nMul
  | .Add => some nAdd
  | .BitOr => some nOr
  | _ => none
def tyS : D → Option String
  | .non => some "NoneType"
  | .bl _ => some "bool"
  | .int _ => some "int"
  | .str _ => some "str"
  | .tup _ => some "tuple"
  | .lst _ => some "list"
  | .dic _ => some "dict"
  | _ => none
def datOf : List W → Option (List D)
  | [] => some []
  | .d x :: r => (datOf r).map (x :: ·)
  | _ => none
/-- a list that grows, and a list behind it -/
def addL (op : Operator) (i : Nat) (y : List D) : M W := fun m => match op, m[i]? with
  | .Add, some (.lst l) => (match datOf l with
    | some x => bif decide (x.length + y.length ≤ strTop) then .ok (.d (.lst (x ++ y))) m else .stuck
    | none => .stuck)
  | _, _ => .stuck
def binD (op : Operator) (a b : W) : M W := match a, b with
  | .d (.int i), .d (.int j) => (match op with
    | .Add => M.ret (.d (.int (i + j)))
    | .Sub => M.ret (.d (.int (i - j)))
    | .Mult => bif Sm i && Sm j then M.ret (.d (.int (i * j))) else M.no
    | .FloorDiv => bif decide (0 < j) && Sm j then M.ret (.d (.int (i / j))) else M.no
    | .Mod => bif decide (0 < j) then M.ret (.d (.int (i % j))) else M.no
    | .Pow => bif decide (0 ≤ j) && (decide (j ≤ 1000) && decide (i.natAbs < 2 ^ 1000)) then M.ret (.d (.int (i ^ j.toNat))) else M.no
    | _ => M.no)
  | .d (.str x), .d (.str y) => (match op with
    | .Add => bif decide (x.length + y.length ≤ strTop) then M.ret (.d (.str (x ++ y))) else M.no
    | _ => M.no)
  | .d (.tup x), .d (.tup y) => (match op with
    | .Add => bif decide (x.length + y.length ≤ strTop) then M.ret (.d (.tup (x ++ y))) else M.no
    | _ => M.no)
  | .d (.lst x), .d (.lst y) => (match op with
    | .Add => bif decide (x.length + y.length ≤ strTop) then M.ret (.d (.lst (x ++ y))) else M.no
    | _ => M.no)
  | .d (.lst x), .d (.int k) => (match op with
    | .Mult => bif (decide (0 ≤ k) && decide (k ≤ strTop)) && decide (x.length * k.toNat ≤ strTop) then M.ret (.d (.lst (List.replicate k.toNat x).flatten)) else M.no
    | _ => M.no)
  | .d (.ins c x), .d (.ins c' y) => (match dunName op with
    | some n => bif c == c' then dund P C c n [.d (.ins c x), .d (.ins c' y)] else M.no
    | none => M.no)
  | .d (.ins c x), .d y => (match op with
    | .Mult => bif (tyS y).isSome then dund P C c nMul [.d (.ins c x), .d y] else M.no
    | _ => M.no)
  | .r i, .d (.lst y) => addL op i y
  | _, _ => M.no
def unD (op : UnaryOp) (a : W) : M W := match a with
  | .d (.int i) => (match op with
    | .USub => M.ret (.d (.int (-i)))
    | _ => M.no)
  | .d (.ins c x) => (match op with
    | .Invert => dund P C c nInvert [a]
    | .USub => dund P C c nNeg [a]
    | _ => M.no)
  | _ => M.no
/-- a list that grows read as data -/
def datR (m : Mu) : W → Option D
  | .d x => some x
  | .r i => match m[i]? with
    | some (.lst l) => (datOf l).map .lst
    | _ => none
  | _ => none
def asB : W → M Bool
  | .d (.bl b) => M.ret b
  | _ => M.no
/-- what may stand right of an own == -/
def eqR : D → Bool
  | .ins c _ => (P.cls[c]?).isSome
  | .exn _ _ => false
  | _ => true
def cmpD (op : CmpOp) (a b : W) : M Bool := match op with
  | .Is => (match a, b with
    | .d x, .d .non => M.ret (match x with | .non => true | _ => false)
    | .d x, .d (.bl c) => M.ret (match x with | .bl e => e == c | _ => false)
    | _, _ => M.no)
  | .IsNot => (match a, b with
    | .d x, .d .non => M.ret (match x with | .non => false | _ => true)
    | .d x, .d (.bl c) => M.ret (match x with | .bl e => e != c | _ => true)
    | _, _ => M.no)
  | .Eq => (match a, b with
    | .d (.ins c x), .d y => bif eqR P y then (dund P C c nEq [.d (.ins c x), .d y]).bind asB else M.no
    | .d x, .d y => M.opt (eqE x y)
    | .r i, .d y => fun m => M.opt ((datR m (.r i)).bind fun x => eqQ x y) m
    | _, _ => M.no)
  | .NotEq => (match a, b with
    | .d (.ins c x), .d y => bif eqR P y then (dund P C c nEq [.d (.ins c x), .d y]).bind fun w => (asB w).bind fun k => M.ret (!k) else M.no
    | .d x, .d y => M.opt ((eqP x y).map (! ·))
    | _, _ => M.no)
  | .In => (match a, b with
    | .d x, .d y => M.opt (inD x y)
    | _, _ => M.no)
  | .NotIn => (match a, b with
    | .d x, .d y => M.opt ((inD x y).map (! ·))
    | _, _ => M.no)
  | .Lt => (match a, b with
    | .d (.int i), .d (.int j) => M.ret (decide (i < j))
    | _, _ => M.no)
  | .LtE => (match a, b with
    | .d (.int i), .d (.int j) => M.ret (decide (i ≤ j))
    | _, _ => M.no)
  | .Gt => (match a, b with
    | .d (.int i), .d (.int j) => M.ret (decide (j < i))
    | _, _ => M.no)
  | .GtE => (match a, b with
    | .d (.int i), .d (.int j) => M.ret (decide (j ≤ i))
    | _, _ => M.no)
def isiT (t : String) : Ct → Bool
  | .int => t == "int" || t == "bool"
  | .bool => t == "bool"
  | .str => t == "str"
  | .tup => t == "tuple"
  | .lst => t == "list"
  | .dic => t == "dict"
  | _ => false
def ctOk : Ct → Bool
  | .own c => (P.cls[c]?).isSome
  | .exc c => decide (c < P.nx)
  | _ => true
def isiX (k : Nat) : Ct → Bool
  | .exc c => k == c || c == 0
  | .ve => true
  | _ => false
def isiD (w : W) (c : Ct) : Option Bool := bif ctOk P c then (match w with
  | .d (.ins k _) => (P.cls[k]?).map fun _ => (match c with | .own k' => k == k' | _ => false)
  | .d (.exn k _) => bif decide (k < P.nx) then some (isiX k c) else none
  | .d x => (tyS x).map fun t => isiT t c
  | _ => none) else none
def allBs : List D → Option (List Bool)
  | [] => some []
  | .bl b :: r => (allBs r).map (b :: ·)
  | _ => none
def allI : List D → Option (List Int)
  | [] => some []
  | .int i :: r => (allI r).map (i :: ·)
  | _ => none
def maxI : List Int → Option Int
  | [] => none
  | [i] => some i
  | i :: r => (maxI r).map fun j => if j > i then j else i
def minI : List Int → Option Int
  | [] => none
  | [i] => some i
  | i :: r => (minI r).map fun j => if j < i then j else i
def seqOf (m : Mu) : W → Option (List W)
  | .d (.tup l) => some (l.map .d)
  | .d (.lst l) => some (l.map .d)
  | .r i => match m[i]? with
    | some (.lst l) => some l
    | _ => none
  | _ => none
def seqD : W → Option (List W)
  | .d (.tup l) => some (l.map .d)
  | .d (.lst l) => some (l.map .d)
  | _ => none
/-- what is gone over -/
def seqI : W → Option (List W)
  | .d (.str x) => some (x.cps.toList.map fun c => .d (.str ⟨#[c]⟩))
  | w => seqD w
def rngL (lo : Int) (n : Nat) : List D := (List.range n).map fun (i : Nat) => .int (lo + (i : Int))
def bltD (b : BF) (ws : List W) (m : Mu) : Option W := match b, ws with
  | .len, [.d (.str x)] => some (.d (.int x.length))
  | .len, [.d (.scr l)] => some (.d (.int l.length))
  | .len, [w] => (seqOf m w).map fun l => .d (.int l.length)
  | .abs, [.d (.int i)] => some (.d (.int (if i < 0 then -i else i)))
  | .int, [.d (.int i)] => some (.d (.int i))
  | .int, [.d (.str x)] => bif decide (x.length ≤ 640) then (PySem.intText? x).map fun i => .d (.int i) else none
  | .tup, [w] => (match datR m w with
    | some (.lst l) => some (.d (.tup l))
    | some (.tup l) => some (.d (.tup l))
    | _ => none)
  | .int, [.d (.bl k)] => some (.d (.int (if k then 1 else 0)))
  | .str, [.d (.int i)] => bif Sm i then some (.d (.str (toString i))) else none
  | .repr, [.d x] => (reprD x).map .d
  | .max, [.d (.int i), .d (.int j)] => some (.d (.int (if j > i then j else i)))
  | .min, [.d (.int i), .d (.int j)] => some (.d (.int (if j < i then j else i)))
  | .max, [.d (.lst l)] => ((allI l).bind maxI).map fun i => .d (.int i)
  | .max, [.d (.tup l)] => ((allI l).bind maxI).map fun i => .d (.int i)
  | .min, [.d (.lst l)] => ((allI l).bind minI).map fun i => .d (.int i)
  | .all, [.d (.lst l)] => (allBs l).map fun k => .d (.bl (k.all id))
  | .lrng, [.d (.int j)] => bif decide (-(2 ^ 62) ≤ j) && decide (j < strTop) then some (.d (.lst (rngL 0 j.toNat))) else none
  | _, _ => none
def subD (a i : W) (m : Mu) : Option W := match i with
  | .d (.int k) => (match a with
    | .d (.scr l) => (ix l.length k).bind fun j => (l[j]?).map fun i => .d (.int i)
    | .d (.str z) => (ix z.cps.toList.length k).bind fun j => (z.cps.toList[j]?).map fun c => .d (.str ⟨#[c]⟩)
    | _ => (seqOf m a).bind fun l => (ix l.length k).bind fun j => l[j]?)
  | _ => none
def cutL {α : Type} (l : List α) (lo hi : Option Int) : List α := (l.drop (HT.sIx l.length 0 lo)).take (HT.sIx l.length l.length hi - HT.sIx l.length 0 lo)
def optI : Option W → Option (Option Int)
  | none => some none
  | some (.d (.int i)) => some (some i)
  | _ => none
def slcD (a : W) (x y : Option Int) : Option W := match a with
  | .d (.tup l) => some (.d (.tup (cutL l x y)))
  | .d (.lst l) => some (.d (.lst (cutL l x y)))
  | .d (.str z) => some (.d (.str (L2.cutS z x y)))
  | _ => none
def setT : Tg → W → Env → Option Env
  | .nm i, w, e => some (e.set i (some w))
  | .tp l, .d (.tup ds), e => if ds.length = l.length then some ((l.zip ds).foldl (fun e q => e.set q.1 (some (.d q.2))) e) else none
  | .tp l, .d (.lst ds), e => if ds.length = l.length then some ((l.zip ds).foldl (fun e q => e.set q.1 (some (.d q.2))) e) else none
  | .tp _, _, _ => none
def wipeE (e : Env) : List Nat → Env
  | [] => e
  | v :: vs => (wipeE e vs).set v none
/-- a list that grows -/
def pushA (k : Nat) (d : D) : M Unit := fun m => match m[k]? with
  | some (.lst l) => bif decide (l.length < strTop) then .ok () (m.set k (.lst (l ++ [.d d]))) else .stuck
  | _ => .stuck
/-- the items of a walk, turn by turn, into the list at k -/
def goL (f : W → M (Option D)) (k : Nat) : List W → M Unit
  | [] => M.ret ()
  | w :: r => (f w).bind fun o => match o with
    | some d => (pushA k d).bind fun _ => goL f k r
    | none => goL f k r
/-- the same over the list object at i, as it stands turn by turn -/
def goR (f : W → M (Option D)) (i k : Nat) : Nat → Nat → M Unit
  | 0, j => fun m => match m[i]? with
    | some (.lst l) => if l.length = j then .ok () m else .stuck
    | _ => .stuck
  | q + 1, j => fun m => match m[i]? with
    | some (.lst l) => (match l[j]? with
      | some w => ((f w).bind fun o => match o with
        | some d => (pushA k d).bind fun _ => goR f i k q (j + 1)
        | none => goR f i k q (j + 1)) m
      | none => .stuck)
    | _ => .stuck
/-- the new list as data -/
def endL (k : Nat) : Res Unit → Res W
  | .ok _ m1 => (match m1[k]?, cutMu k m1 with
    | some (.lst l), some m2 => (match datOf l with
      | some ds => .ok (.d (.lst ds)) m2
      | none => .stuck)
    | _, _ => .stuck)
  | _ => .stuck
/-- {x: a}: the new dict stands while a is made -/
def dcF (x : Str) (n : Nat) : Res W → Res W
  | .ok (.d d) m1 => (match m1[n]?, cutMu n m1 with
    | some (.dic []), some m2 => bif sOkB x then .ok (.d (.dic [(.inr x, d)])) m2 else .stuck
    | _, _ => .stuck)
  | .exc c v m1 => (match cutMu n m1 with
    | some m2 => .exc c v m2
    | none => .stuck)
  | _ => .stuck
/-- one turn's element -/
def datM (f : M W) : M (Option D) := f.bind fun x => match x with
  | .d d => M.ret (some d)
  | _ => M.no
/-- the slots that a lambda takes along -/
def capsOf (e : Env) : List Nat → Option (List W)
  | [] => some []
  | i :: r => match (e[i]?).bind id, capsOf e r with
    | some w, some l => bif w.noL then some (w :: l) else none
    | _, _ => none
def zipK : List Str → List D → Option (List (Key × D))
  | [], [] => some []
  | k :: ks, d :: ds => (zipK ks ds).map ((Sum.inr k, d) :: ·)
  | _, _ => none
def enumD : W → Option (List W)
  | .d (.lst l) => some (l.mapIdx fun i x => .d (.tup [.int i, x]))
  | _ => none

def rng1D (x : W) : M (List W) := match x with
    | .d (.int j) => bif decide (-(2 ^ 62) ≤ j) && decide (j < 2 ^ 62) then M.ret ((rngL 0 j.toNat).map .d) else M.no
    | _ => M.no
def rng2D (x y : W) : M (List W) := match x, y with
    | .d (.int i), .d (.int j) => bif (decide (-(2 ^ 62) ≤ i) && decide (i < 2 ^ 62)) && (decide (-(2 ^ 62) ≤ j) && decide (j < 2 ^ 62)) then M.ret ((rngL i (j - i).toNat).map .d) else M.no
    | _, _ => M.no
/-- list(range(i, j)) -/
def lrg2D (x y : W) : M W := match x, y with
    | .d (.int i), .d (.int j) => bif decide (j - i < strTop) then M.ret (.d (.lst (rngL i (j - i).toNat))) else M.no
    | _, _ => M.no
mutual
def ev : E → Env → M W
  | .var i, e => M.opt ((e[i]?).bind id)
  | .cst d, _ => M.ret (.d d)
  | .glo g, _ => (match P.glo[g]? with
    | some (.cst d) => M.ret (.d d)
    | _ => M.no)
  | .bin op a b, e => (ev a e).bind fun x => (ev b e).bind fun y => binD P C op x y
  | .neg a, e => (ev a e).bind fun x => unD P C .USub x
  | .inv a, e => (ev a e).bind fun x => unD P C .Invert x
  | .cmp op a b, e => (ev a e).bind fun x => (ev b e).bind fun y => (cmpD P C op x y).bind fun k => M.ret (.d (.bl k))
  | .chn o1 o2 a b c, e => (ev a e).bind fun x => (ev b e).bind fun y => (cmpD P C o1 x y).bind fun k =>
      match k with
      | true => (ev c e).bind fun z => (cmpD P C o2 y z).bind fun k => M.ret (.d (.bl k))
      | false => M.ret (.d (.bl false))
  | .and l, e => evAnd l e
  | .or l, e => evOr l e
  | .not a, e => (ev a e).bind fun x => (tru x).bind fun k => M.ret (.d (.bl (!k)))
  | .ite c a b, e => (ev c e).bind fun x => (tru x).bind fun k => match k with | true => ev a e | false => ev b e
  | .tup l, e => (evs l e).bind fun ws => (M.opt (datOf ws)).bind fun ds => M.ret (.d (.tup ds))
  | .lst l, e => (evs l e).bind fun ws => (M.opt (datOf ws)).bind fun ds => M.ret (.d (.lst ds))
  | .atr a f, e => (ev a e).bind fun x => attr P C x f
  | .sub a i, e => (ev a e).bind fun x => (ev i e).bind fun y => fun m => (M.opt (subD x y m)) m
  | .slc a lo hi, e => (ev a e).bind fun x => ((evO lo e).bind fun y => M.opt (optI y)).bind fun y => ((evO hi e).bind fun z => M.opt (optI z)).bind fun z => M.opt (slcD x y z)
  | .call g l ks lk, e => (evs l e).bind fun ws => (evs lk e).bind fun zs => callG P C g l.len ks (ws ++ zs)
  | .mth a n l, e => (ev a e).bind fun x => (methF P x n).bind fun g => (evs l e).bind fun ws => C.hi g (x :: ws)
  | .cal i l, e => (M.opt ((e[i]?).bind id)).bind fun x => (calF P x).bind fun g => (evs l e).bind fun ws => C.hi g (x :: ws)
  | .blt b l, e => (evs l e).bind fun ws => fun m => (M.opt (bltD b ws m)) m
  | .isi a c _, e => (ev a e).bind fun x => (M.opt (isiD P x c)).bind fun k => M.ret (.d (.bl k))
  | .lc el t i c own, e => (evI i e).bind fun ws => fun m => endL m.length (goL (fun w => match setT t w (wipeE e own) with
      | some e1 => (evC c e1).bind fun k => match k with
        | true => datM (ev el e1)
        | false => M.ret none
      | none => M.no) m.length ws (m ++ [.lst []]))
  | .lcr el t j c own, e => (M.opt ((e[j]?).bind id)).bind fun x => (match x with
    | .r i => fun m => (match m[i]? with
      | some (.lst l) => endL m.length (goR (fun w => match setT t w (wipeE e own) with
        | some e1 => (evC c e1).bind fun k => match k with
          | true => datM (ev el e1)
          | false => M.ret none
        | none => M.no) i m.length l.length 0 (m ++ [.lst []]))
      | _ => .stuck)
    | _ => M.no)
  | .lrg a, e => (ev a e).bind fun x => fun m => (M.opt (bltD .lrng [x] m)) m
  | .lcal i, e => (M.opt ((e[i]?).bind id)).bind fun x => (match x with
    | .lam k l => fun m => bif l.all W.noL && m.all MO.noL then C.hi k l m else .stuck
    | _ => M.no)
  | .clam g k caps l, e => (M.opt (capsOf e caps)).bind fun cs => (evs l e).bind fun ws => fun m => nlR (callG P C g (l.len + 1) [] (.lam k cs :: ws) m)
  | .dic ks l, e => (evs l e).bind fun ws => (M.opt (datOf ws)).bind fun ds => (M.opt (zipK ks ds)).bind fun kds => M.ret (.d (.dic kds))
  | .lrg2 a b, e => (ev a e).bind fun x => (ev b e).bind fun y => lrg2D x y
  | .mkx g a, e => (ev a e).bind fun x => (match C.rm, P.glo[g]?, x with
    | true, some (.exc c), .d v => M.ret (.d (.exn c v))
    | _, _, _ => M.no)
  | .sm k a l, e => (ev a e).bind fun x => (M.opt (strOf x)).bind fun z => (evs l e).bind fun ws => M.opt (smD k z ws)
  | .std tp fl l, e => (evst l fl e).bind fun ws => (M.opt (datOf ws)).bind fun ds => bif decide (ds.length ≤ strTop) then M.ret (.d (bif tp then .tup ds else .lst ds)) else M.no
  | .smc g f l, e => (match P.glo[g]? with
    | some (.cls c) => (match P.stat c f with
      | some h => (evs l e).bind fun ws => C.hi h ws
      | none => M.no)
    | _ => M.no)
  | .fst l, e => (evs l e).bind fun ws => M.opt (fstD ws)
  | .dc1 x a, e => fun m => dcF x m.length (ev a e (m ++ [.dic []]))
  | .any, _ => M.no
/-- a display's items, some with a star -/
def evst : Es → List Bool → Env → M (List W)
  | .nil, _, _ => M.ret []
  | .cons a r, true :: fl, e => (ev a e).bind fun x => (M.opt (seqD x)).bind fun xs => (evst r fl e).bind fun ys => M.ret (xs ++ ys)
  | .cons a r, false :: fl, e => (ev a e).bind fun x => (evst r fl e).bind fun ys => M.ret (x :: ys)
  | .cons _ _, [], _ => M.no
def evs : Es → Env → M (List W)
  | .nil, _ => M.ret []
  | .cons a r, e => (ev a e).bind fun x => (evs r e).bind fun xs => M.ret (x :: xs)
def evO : Oe → Env → M (Option W)
  | .no, _ => M.ret none
  | .yes a, e => (ev a e).bind fun x => M.ret (some x)
def evC : Oe → Env → M Bool
  | .no, _ => M.ret true
  | .yes a, e => (ev a e).bind tru
def evAnd : Es → Env → M W
  | .nil, _ => M.no
  | .cons a .nil, e => ev a e
  | .cons a r, e => (ev a e).bind fun x => (tru x).bind fun k => match k with | true => evAnd r e | false => M.ret x
def evOr : Es → Env → M W
  | .nil, _ => M.no
  | .cons a .nil, e => ev a e
  | .cons a r, e => (ev a e).bind fun x => (tru x).bind fun k => match k with | true => M.ret x | false => evOr r e
def evI : It → Env → M (List W)
  | .seq a, e => (ev a e).bind fun x => M.opt (seqI x)
  | .rng1 a, e => (ev a e).bind rng1D
  | .rng2 a b, e => (ev a e).bind fun x => (ev b e).bind fun y => rng2D x y
  | .enum _, _ => M.no
end

/-! ### statements -/
def Out.ofR (e : Env) : Res W → (W → Mu → Out) → Out
  | .ok w m, f => f w m
  | .exc c x m, _ => .ex c x e m
  | .stuck, _ => .st
def forL (set : W → Env → Option Env) (body : Env → Mu → Out) : List W → Env → Mu → Out
  | [], e, m => .nx e m
  | w :: r, e, m => match set w e with
    | none => .st
    | some e1 => match body e1 m with
      | .nx e2 m2 => forL set body r e2 m2
      | .ct e2 m2 => forL set body r e2 m2
      | .bk e2 m2 => .nx e2 m2
      | o => o
/-- at most n turns -/
def whN (c : Env → Mu → Option Bool × Out) (body : Env → Mu → Out) : Nat → Env → Mu → Option Out
  | 0, _, _ => none
  | n + 1, e, m => match c e m with
    | (none, o) => some o
    | (some false, .nx e1 m1) => some (.nx e1 m1)
    | (some true, .nx e1 m1) => (match body e1 m1 with
      | .nx e2 m2 => whN c body n e2 m2
      | .ct e2 m2 => whN c body n e2 m2
      | .bk e2 m2 => some (.nx e2 m2)
      | o => some o)
    | _ => some .st
open Classical in
noncomputable def whO (c : Env → Mu → Option Bool × Out) (body : Env → Mu → Out) (e : Env) (m : Mu) : Out :=
  if h : ∃ o n, whN c body n e m = some o then Classical.choose h else .st
def putW (f : Nat) (w : W) : List (Nat × W) → List (Nat × W)
  | [] => [(f, w)]
  | (g, x) :: r => if g = f then (g, w) :: r else (g, x) :: putW f w r
def handle (x : Nat) (h : Nat → D → Env → Mu → Out) : Out → Out
  | .ex c v e m => bif decide (c < P.nx) then (bif P.exSub c x then h c v e m else .ex c v e m) else .st
  | o => o
def setAt (l : List (Option W)) (i : Nat) (w : Option W) : Env := l.set i w
mutual
noncomputable def exec : S → Env → Mu → Out
  | .pass, e, m => .nx e m
  | .exp a, e, m => Out.ofR e (ev P C a e m) fun _ m1 => .nx e m1
  | .asg t a, e, m => Out.ofR e (ev P C a e m) fun w m1 => (match setT t w e with
    | some e1 => .nx e1 m1
    | none => .st)
  | .par l es, e, m => (match evs P C es e m with
    | .ok ws m1 => if ws.length = l.length then .nx ((l.zip ws).foldl (fun e q => e.set q.1 (some q.2)) e) m1 else .st
    | .exc c x m1 => .ex c x e m1
    | .stuck => .st)
  | .new i es, e, m => (match evs P C es e m with
    | .ok ws m1 => .nx (e.set i (some (.r m1.length))) (m1 ++ [.lst ws])
    | .exc c x m1 => .ex c x e m1
    | .stuck => .st)
  | .setf a f b, e, m => Out.ofR e (ev P C b e m) fun w m1 => Out.ofR e (ev P C a e m1) fun o m2 => (match o with
    | .r i => (match m2[i]? with
      | some (.ins c fs) => (match P.cls[c]? with
        | some k => bif k.fields.contains f && decide (fs.length < 900) then .nx e (m2.set i (.ins c (putW f w fs))) else .st
        | none => .st)
      | _ => .st)
    | _ => .st)
  | .seti a i b, e, m => Out.ofR e (ev P C b e m) fun w m1 => Out.ofR e (ev P C a e m1) fun o m2 => Out.ofR e (ev P C i e m2) fun k m3 => (match o, k with
    | .r j, .d (.int n) => (match m3[j]? with
      | some (.lst l) => (match ix l.length n with
        | some p => .nx e (m3.set j (.lst (l.set p w)))
        | none => .st)
      | _ => .st)
    | _, _ => .st)
  | .app a b, e, m => Out.ofR e (ev P C a e m) fun o m1 => (match o with
    | .r j => (match m1[j]? with
      | some (.lst _) => Out.ofR e (ev P C b e m1) fun w m2 => (match m2[j]? with
        | some (.lst l) => bif decide (l.length < strTop) then .nx e (m2.set j (.lst (l ++ [w]))) else .st
        | _ => .st)
      | _ => .st)
    | _ => .st)
  | .ext a b, e, m => Out.ofR e (ev P C a e m) fun o m1 => (match o with
    | .r j => (match m1[j]? with
      | some (.lst _) => Out.ofR e (ev P C b e m1) fun w m2 => (match m2[j]?, w with
        | some (.lst l), .d (.lst ds) => bif decide (l.length + ds.length ≤ strTop) then .nx e (m2.set j (.lst (l ++ ds.map .d))) else .st
        | _, _ => .st)
      | _ => .st)
    | _ => .st)
  | .ite c t f, e, m => Out.ofR e (ev P C c e m) fun w m1 => (match truth m1 w with
    | some true => execs t e m1
    | some false => execs f e m1
    | none => .st)
  | .ret a, e, m => Out.ofR e (ev P C a e m) fun w m1 => .rt w m1
  | .retN, _, m => .rt (.d .non) m
  | .any, _, _ => .st
  | .rnw es, e, m => (match evs P C es e m with
    | .ok ws m1 => .rt (.r m1.length) (m1 ++ [.lst ws])
    | .exc c x m1 => .ex c x e m1
    | .stuck => .st)
  | .fo t i b, e, m => (match evI P C i e m with
    | .ok ws m1 => forL (setT t) (execs b) ws e m1
    | .exc c x m1 => .ex c x e m1
    | .stuck => .st)
  | .foe t a b, e, m => (match ev P C a e m with
    | .ok w m1 => (match enumD w with
      | some ws => forL (setT t) (execs b) ws e m1
      | none => .st)
    | .exc c x m1 => .ex c x e m1
    | .stuck => .st)
  | .wh c b, e, m => whO (fun e m => match ev P C c e m with
      | .ok w m1 => (match truth m1 w with
        | some k => (some k, .nx e m1)
        | none => (none, .st))
      | .exc x v m1 => (none, .ex x v e m1)
      | .stuck => (none, .st)) (execs b) e m
  | .brk, e, m => .bk e m
  | .cont, e, m => .ct e m
  | .rse g a, e, m => Out.ofR e (ev P C a e m) fun w m1 => (match C.rm, w, P.glo[g]? with
    | true, .d v, some (.exc x) => .ex x v e m1
    | _, _, _ => .st)
  | .tr b g i h, e, m => handle P (P.exAt g) (fun c v e1 m1 => match i with
      | none => execs h e1 m1
      | some j => (match execs h (e1.set j (some (.d (.exn c v)))) m1 with
        | .nx e2 m2 => .nx (e2.set j none) m2
        | .bk e2 m2 => .bk (e2.set j none) m2
        | .ct e2 m2 => .ct (e2.set j none) m2
        | o => o)) (execs b e m)
noncomputable def execs : Ss → Env → Mu → Out
  | .nil, e, m => .nx e m
  | .cons s r, e, m => match exec s e m with
    | .nx e1 m1 => execs r e1 m1
    | o => o
end

/-! ### a def's run -/
def startE (ns : Nat) (ws : List W) : Env := ws.map some ++ List.replicate (ns - ws.length) none
/-- a new list as data -/
def froze (n : Nat) (m : Mu) (w : W) : Option W := match w with
  | .r i => bif decide (i < n) then some (.r i) else (match m[i]? with
    | some (.lst l) => (datOf l).map fun ds => .d (.lst ds)
    | _ => none)
  | w => bif w.under n then some w else none
/-- how a def ends, by its mode: 0 as it is (no new object); 1 what is new is data, or goes; 2 a new list is handed out as an object -/
def fnEnd (mode n : Nat) (w : W) (m : Mu) : Res W := match mode with
  | 0 => if m.length = n then .ok w m else .stuck
  | 4 => if m.length = n then .ok w m else .stuck
  | 1 => (match froze n m w, cutMu n m with
    | some v, some m1 => .ok v m1
    | _, _ => .stuck)
  | _ => .ok w m
noncomputable def runFn (f : Nat) (ws : List W) : M W := fun m => match P.fns[f]? with
  | some k => if ws.length = k.np then (match execs P C k.body (startE k.ns ws) m with
    | .nx _ m1 => fnEnd k.mode m.length (.d .non) m1
    | .rt w m1 => fnEnd k.mode m.length w m1
    | .ex c x _ m1 => (match cutMu m.length m1 with
      | some m2 => .exc c x m2
      | none => .stuck)
    | _ => .stuck) else .stuck
  | none => .stuck
end
noncomputable def lev (P : Pg) : Nat → Call
  | 0 => ⟨fun _ _ => M.no, fun _ _ => M.no, false⟩
  | n + 1 => ⟨runFn P (lev P n), (lev P n).hi, true⟩
end Tn

set_option Elab.async false
set_option linter.all false
set_option maxRecDepth 100000
namespace Tn
open PySem PySem.Spec PyProof.Rows L2

/-! ### what data stand for -/
/-- where the written things stand -/
structure Gl where
  K : PySem.W.Frag
  ca : Nat → Addr
  xa : Nat → Addr
  fn : Nat → List Str
  nm : Nat → Str
  fa : Nat → Addr
  fd : Nat → FuncData
  ps : Nat → List Str
  gn : Nat → Str
  isL : Nat → Bool
  lam : Nat → List Str → Arguments → Expr → Scope → Prop
  T : List (Addr × Str)
  tab : Nat → Option (Addr × Addr)
  file : Str
def StrOk (x : Str) : Prop := x.length ≤ strTop ∧ ∀ c ∈ x.cps.toList, c < 16 ^ 8
def keyOk : Key → Prop
  | .inl _ => True
  | .inr z => StrOk z
/-- an exception that was made (caught or never raised), tracked -/
def ExV (cls : Value) (d a : Addr) : HO := .ext fun h => ∃ (oe : Obj) (vs : Array Value), h.get? a = some oe ∧ oe.cls = cls ∧ oe.dict = some d ∧ oe.data = .fields vs
/-- the script: it stands, known to the object or written -/
def SqF (K : PySem.W.Frag) (H : Hp) (a : Addr) (vs : List V) : Prop := (∃ o, H a = some (.frz o (.lst vs))) ∨ ∃ (o : Obj) (its : Array Value) (n : Nat), K.lookup a = some o ∧ o.cls = .type "list" ∧ o.dict = none ∧ o.data = .seq its n ∧ its.size ≤ sizeLine ∧ Vals vs its.toList
def RdT (G : Gl) (ι : List Addr) (H : Hp) (a : Addr) (vs : List V) : Prop := (a ∉ ι ∧ Rd H a (.tup vs)) ∨
  ∃ (o : Obj) (its : Array Value) (n : Nat), G.K.lookup a = some o ∧ o.cls = .type "tuple" ∧ o.data = .seq its n ∧ its.size ≤ sizeLine ∧ Vals vs its.toList
mutual
inductive Den (G : Gl) (ι : List Addr) (H : Hp) : V → D → Prop
  | non : Den G ι H .non .non
  | bl (b : Bool) : Den G ι H (.bl b) (.bl b)
  | int (i : Int) : Den G ι H (.int i) (.int i)
  | str {x : Str} : StrOk x → Den G ι H (.str x) (.str x)
  | tup {a : Addr} {vs : List V} {ds : List D} : RdT G ι H a vs → DenL G ι H vs ds → Den G ι H (.ref a) (.tup ds)
  | lst {a : Addr} {vs : List V} {ds : List D} : a ∉ ι → H a = some (.lst vs) → DenL G ι H vs ds → Den G ι H (.ref a) (.lst ds)
  | scr {a : Addr} {l : List Int} : SqF G.K H a (l.map V.int) → Den G ι H (.ref a) (.scr l)
  | dic {a : Addr} {kvs : List (Key × V)} {kds : List (Key × D)} : a ∉ ι → H a = some (.dK kvs) → kvs.map (·.1) = kds.map (·.1) → (∀ q ∈ kds, keyOk q.1) → DenL G ι H (kvs.map (·.2)) (kds.map (·.2)) → Den G ι H (.ref a) (.dic kds)
  | ins {a dx : Addr} {fs : List (Str × V)} {c : Nat} {vs : List V} {ds : List D} : a ∉ ι → H a = some (.ins (G.ca c) dx fs) → (G.fn c).map (fun f => fs.lookup f) = vs.map some →
      (∀ f v, fs.lookup f = some v → f ∈ G.fn c) → DenL G ι H vs ds → Den G ι H (.ref a) (.ins c ds)
  | exn {a d : Addr} {v : V} {c : Nat} {x : D} : a ∉ ι → d ∉ ι → H a = some (ExV (.ref (G.xa c)) d a) → H d = some (.xd [(("value" : Str), v)]) → Den G ι H v x → Den G ι H (.ref a) (.exn c x)
inductive DenL (G : Gl) (ι : List Addr) (H : Hp) : List V → List D → Prop
  | nil : DenL G ι H [] []
  | cons {v : V} {vs : List V} {d : D} {ds : List D} : Den G ι H v d → DenL G ι H vs ds → DenL G ι H (v :: vs) (d :: ds)
end
/-- an object (a cell while its def waits, a lambda) that stands as it is -/
abbrev CelO (oc : Obj) (c : Addr) : HO := .frz oc (.own c)
/-- what a lambda took along -/
structure Caps (ι : List Addr) (H : Hp) (N : List Str) (cl : List (Str × Addr)) (vs : List V) : Prop where
  inj : ∀ x y c, cl.lookup x = some c → cl.lookup y = some c → x = y
  all : ∀ q ∈ cl, q.2 ∉ ι ∧ ∃ oc v, H q.2 = some (CelO oc q.2) ∧ oc.data = .cell v
  at_ : ∀ (i : Nat) (x : Str) (v : V), N[i]? = some x → vs[i]? = some v → ∃ c oc u, cl.lookup x = some c ∧ H c = some (CelO oc c) ∧ oc.data = .cell (some u) ∧ RelV v u
mutual
def DenW (G : Gl) (ι : List Addr) (H : Hp) (v : V) : W → Prop
  | .d x => Den G ι H v x
  | .r i => ∃ a, ι[i]? = some a ∧ v = .ref a
  | .lam k l => ∃ (f c : Addr) (q : Str) (N : List Str) (params : Arguments) (body : Expr) (scope : Scope) (cl : List (Str × Addr)) (vs : List V) (pm ctv : Value), v = .ref f ∧ f ∉ ι ∧ c ∉ ι ∧ H f = some (CelO (PySem.W.kla_obj "<lambda>" q params body scope cl pm c ctv) f) ∧ H c = some (LamX.CodeO c q) ∧ G.lam k N params body scope ∧ N.length = l.length ∧ Caps ι H N cl vs ∧ DenWs G ι H vs l
def DenWs (G : Gl) (ι : List Addr) (H : Hp) : List V → List W → Prop
  | [], [] => True
  | v :: vs, w :: ws => DenW G ι H v w ∧ DenWs G ι H vs ws
  | [], _ :: _ => False
  | _ :: _, [] => False
end
/-- an object that may change -/
def MoOk (G : Gl) (ι : List Addr) (H : Hp) (a : Addr) : MO → Prop
  | .lst ws => ∃ vs, H a = some (.lst vs) ∧ DenWs G ι H vs ws
  | .dic kws => ∃ kvs, H a = some (.dK kvs) ∧ kvs.map (·.1) = kws.map (·.1) ∧ DenWs G ι H (kvs.map (·.2)) (kws.map (·.2))
  | .ins c fws => ∃ dx fs vs, H a = some (.ins (G.ca c) dx fs) ∧ (fs.length ≤ fws.length ∧ (fws.map (·.1)).Nodup) ∧ (fws.map fun q => fs.lookup (G.nm q.1)) = vs.map some ∧ DenWs G ι H vs (fws.map (·.2)) ∧
      (∀ f v, fs.lookup f = some v → ∃ q ∈ fws, f = G.nm q.1)
structure MRel (G : Gl) (ι : List Addr) (H : Hp) (m : Mu) : Prop where
  nd : ι.Nodup
  len : ι.length = m.length
  ok : ∀ (i : Nat) (a : Addr) (o : MO), ι[i]? = some a → m[i]? = some o → MoOk G ι H a o
  tb : LamX.Tabs G.T H
structure Ex (ι : List Addr) (H : Hp) (ι' : List Addr) (H' : Hp) : Prop where
  pre : ι <+: ι'
  frz : ∀ {a o u}, H a = some (.frz o u) → H' a = some (.frz o u)
  keep : ∀ a o, a ∉ ι → H a = some o → (∀ ps, o ≠ .tbl ps) → a ∉ ι' ∧ H' a = some o

section
variable {G : Gl} {ι ι' ι2 : List Addr} {H H' H2 : Hp} {m : Mu}
theorem Ex.refl : Ex ι H ι H := ⟨List.prefix_refl _, fun e => e, fun _ _ h e _ => ⟨h, e⟩⟩
theorem Ex.trans (x : Ex ι H ι' H') (y : Ex ι' H' ι2 H2) : Ex ι H ι2 H2 := ⟨x.pre.trans y.pre, fun e => y.frz (x.frz e), fun a o h e n => let ⟨h1, e1⟩ := x.keep a o h e n; y.keep a o h1 e1 n⟩
theorem Ex.get (x : Ex ι H ι' H') {i : Nat} {a : Addr} (h : ι[i]? = some a) : ι'[i]? = some a := by
  obtain ⟨t, e⟩ := x.pre
  obtain ⟨hi, e2⟩ := List.getElem?_eq_some_iff.mp h
  rw [← e, List.getElem?_append_left hi]
  exact h
theorem Ex.rd {a : Addr} {u : HO} (x : Ex ι H ι' H') (h : a ∉ ι) (r : Rd H a u) (n : ∀ ps, u ≠ .tbl ps) : a ∉ ι' ∧ Rd H' a u := by
  rcases r with r | ⟨o, r⟩
  · obtain ⟨h1, h2⟩ := x.keep a _ h r n
    exact ⟨h1, .inl h2⟩
  · obtain ⟨h1, h2⟩ := x.keep a _ h r nofun
    exact ⟨h1, .inr ⟨o, h2⟩⟩
theorem Ex.rdT {a : Addr} {vs : List V} (x : Ex ι H ι' H') (r : RdT G ι H a vs) : RdT G ι' H' a vs := by
  rcases r with ⟨h, r⟩ | r
  · exact .inl (x.rd h r nofun)
  · exact .inr r
mutual
theorem Den.ex (x : Ex ι H ι' H') : ∀ {v : V} {d : D}, Den G ι H v d → Den G ι' H' v d
  | _, _, .non => .non
  | _, _, .bl b => .bl b
  | _, _, .int i => .int i
  | _, _, .str h => .str h
  | _, _, .tup r h => .tup (x.rdT r) (h.ex x)
  | _, _, .lst h e l => .lst (x.keep _ _ h e nofun).1 (x.keep _ _ h e nofun).2 (l.ex x)
  | _, _, .scr h => .scr (h.imp (fun ⟨o, e⟩ => ⟨o, x.frz e⟩) id)
  | _, _, .dic h e k o l => .dic (x.keep _ _ h e nofun).1 (x.keep _ _ h e nofun).2 k o (l.ex x)
  | _, _, .ins h e f n l => .ins (x.keep _ _ h e nofun).1 (x.keep _ _ h e nofun).2 f n (l.ex x)
  | _, _, .exn h1 h2 e1 e2 l => .exn (x.keep _ _ h1 e1 nofun).1 (x.keep _ _ h2 e2 nofun).1 (x.keep _ _ h1 e1 nofun).2 (x.keep _ _ h2 e2 nofun).2 (l.ex x)
theorem DenL.ex (x : Ex ι H ι' H') : ∀ {vs : List V} {ds : List D}, DenL G ι H vs ds → DenL G ι' H' vs ds
  | _, _, .nil => .nil
  | _, _, .cons h t => .cons (h.ex x) (t.ex x)
end
theorem Caps.ex (x : Ex ι H ι' H') {N : List Str} {cl : List (Str × Addr)} {vs : List V} (c : Caps ι H N cl vs) : Caps ι' H' N cl vs :=
  ⟨c.inj, fun q e => let ⟨n, oc, v, h1, h2⟩ := c.all q e; ⟨(x.keep _ _ n h1 nofun).1, oc, v, x.frz h1, h2⟩, fun i y v e1 e2 => let ⟨d, oc, u, h1, h2, h3⟩ := c.at_ i y v e1 e2; ⟨d, oc, u, h1, x.frz h2, h3⟩⟩
mutual
theorem DenW.ex (x : Ex ι H ι' H') {v : V} : ∀ {w : W}, DenW G ι H v w → DenW G ι' H' v w
  | .d y, h => by
    simp only [DenW] at h ⊢
    exact Den.ex x h
  | .r i, h => by
    simp only [DenW] at h ⊢
    obtain ⟨a, e, q⟩ := h
    exact ⟨a, x.get e, q⟩
  | .lam k l, h => by
    simp only [DenW] at h ⊢
    obtain ⟨f, c, q, N, p, b, sc, cl, vs, pm, ct, e1, e2, e3, e4, e5, e6, e7, e8, e9⟩ := h
    exact ⟨f, c, q, N, p, b, sc, cl, vs, pm, ct, e1, (x.keep _ _ e2 e4 nofun).1, (x.keep _ _ e3 e5 LamX.codeO_ne).1, (x.keep _ _ e2 e4 nofun).2, (x.keep _ _ e3 e5 LamX.codeO_ne).2, e6, e7, e8.ex x, DenWs.ex x e9⟩
theorem DenWs.ex (x : Ex ι H ι' H') : ∀ {vs : List V} {ws : List W}, DenWs G ι H vs ws → DenWs G ι' H' vs ws
  | [], [], _ => by simp only [DenWs]
  | _ :: _, _ :: _, h => by
    simp only [DenWs] at h ⊢
    exact ⟨h.1.ex x, h.2.ex x⟩
  | [], _ :: _, h => by simp only [DenWs] at h
  | _ :: _, [], h => by simp only [DenWs] at h
end
theorem DenL.length : ∀ {vs : List V} {ds : List D}, DenL G ι H vs ds → vs.length = ds.length
  | _, _, .nil => rfl
  | _, _, .cons _ t => congrArg Nat.succ t.length
theorem DenWs.length : ∀ {vs : List V} {ws : List W}, DenWs G ι H vs ws → vs.length = ws.length
  | [], [], _ => rfl
  | _ :: _, _ :: _, h => by
    simp only [DenWs] at h
    exact congrArg Nat.succ h.2.length
  | [], _ :: _, h => by simp only [DenWs] at h
  | _ :: _, [], h => by simp only [DenWs] at h
theorem MRel.tracked (r : MRel G ι H m) {a : Addr} (h : a ∈ ι) : ∃ o, H a = some o := by
  obtain ⟨i, hi, e⟩ := List.mem_iff_getElem.mp h
  have e1 : ι[i]? = some a := by rw [List.getElem?_eq_getElem hi, e]
  have hm : i < m.length := by rw [← r.len]; exact hi
  have q := r.ok i a _ e1 (List.getElem?_eq_getElem hm)
  cases z : m[i] with
  | lst ws => rw [z] at q; obtain ⟨vs, q, _⟩ := q; exact ⟨_, q⟩
  | dic ws => rw [z] at q; obtain ⟨vs, q, _⟩ := q; exact ⟨_, q⟩
  | ins c ws => rw [z] at q; obtain ⟨_, _, _, q, _⟩ := q; exact ⟨_, q⟩
theorem MRel.fresh (r : MRel G ι H m) {p : Addr} (h : H p = none) : p ∉ ι := fun z => by
  obtain ⟨o, e⟩ := r.tracked z
  rw [h] at e
  cases e
/-- a new object of any kind comes beside -/
theorem Ex.new (r : MRel G ι H m) {p : Addr} {o : HO} (h : H p = none) : Ex ι H ι (upd H p o) := ⟨List.prefix_refl _, fun e => by rw [upd_ne (ne_of_none e h)]; exact e, fun a u ha e _ => ⟨ha, by rw [upd_ne (ne_of_none e h)]; exact e⟩⟩
theorem MoOk.ex (x : Ex ι H ι' H') {a : Addr} {o : MO} (h : MoOk G ι H a o) (e : H' a = H a) : MoOk G ι' H' a o := by
  cases o with
  | lst ws => obtain ⟨vs, q, l⟩ := h; exact ⟨vs, e.trans q, l.ex x⟩
  | dic ws => obtain ⟨vs, q, k, l⟩ := h; exact ⟨vs, e.trans q, k, l.ex x⟩
  | ins c ws => obtain ⟨dx, fs, vs, q, z, k, l, n⟩ := h; exact ⟨dx, fs, vs, e.trans q, z, k, l.ex x, n⟩
theorem MRel.new (r : MRel G ι H m) {p : Addr} {o : HO} (h : H p = none) : MRel G ι (upd H p o) m :=
  ⟨r.nd, r.len, fun i a q h1 h2 => (r.ok i a q h1 h2).ex (Ex.new r h) (upd_ne (fun z => r.fresh h (z ▸ List.mem_of_getElem? h1))), r.tb.ext fun b o e => by rw [upd_ne (ne_of_none e h)]; exact e⟩
end
end Tn

set_option Elab.async false
set_option linter.all false
set_option maxRecDepth 100000
namespace Tn
open PySem PySem.Spec PyProof.Rows L2

/-! ### what a computation's answer asks -/
def ExD (G : Gl) (ι : List Addr) (H : Hp) (cls : Value) (dd : Option Addr) (c : Nat) (x : D) : Prop :=
  cls = .ref (G.xa c) ∧ ∃ d v, dd = some d ∧ d ∉ ι ∧ H d = some (.xd [(("value" : Str), v)]) ∧ Den G ι H v x
def PostG {α β : Type} (G : Gl) (R : List Addr → Hp → β → α → Prop) (ι : List Addr) (H : Hp) (r : Res α) (Q : β → Hp → Prop) (E : XK) : Prop := match r with
  | .ok w m => ∀ v ι' H', Ex ι H ι' H' → MRel G ι' H' m → R ι' H' v w → Q v H'
  | .exc c x m => ∀ ι' H' cls dd, Ex ι H ι' H' → MRel G ι' H' m → ExD G ι' H' cls dd c x → E cls dd H'
  | .stuck => False
abbrev Post (G : Gl) : List Addr → Hp → Res W → VK → XK → Prop := PostG G (fun ι H v w => DenW G ι H v w)
abbrev PostL (G : Gl) : List Addr → Hp → Res (List W) → (List V → Hp → Prop) → XK → Prop := PostG G (fun ι H v w => DenWs G ι H v w)
abbrev PostB (G : Gl) : List Addr → Hp → Res Bool → (Bool → Hp → Prop) → XK → Prop := PostG G (fun _ _ v w => v = w)
section
variable {α β γ δ : Type} {G : Gl} {R : List Addr → Hp → β → α → Prop} {R2 : List Addr → Hp → δ → γ → Prop} {ι ι' : List Addr} {H H' : Hp} {r : Res α} {Q : β → Hp → Prop} {E : XK}
theorem PostG.later (x : Ex ι H ι' H') (h : PostG G R ι H r Q E) : PostG G R ι' H' r Q E := by
  cases r with
  | ok w m => exact fun v ι2 H2 y => h v ι2 H2 (x.trans y)
  | exc c e m => exact fun ι2 H2 cls dd y => h ι2 H2 cls dd (x.trans y)
  | stuck => exact h
theorem PostG.mono {Q' : β → Hp → Prop} (h : PostG G R ι H r Q E) (hq : ∀ v H', Q v H' → Q' v H') : PostG G R ι H r Q' E := by
  cases r with
  | ok w m => exact fun v ι2 H2 y a b => hq _ _ (h v ι2 H2 y a b)
  | exc c e m => exact h
  | stuck => exact h
/-- one behind another -/
theorem PostG.bind {f : M α} {g : α → M γ} {m : Mu} {Q2 : δ → Hp → Prop} (h : PostG G R2 ι H ((f.bind g) m) Q2 E)
    (k : ∀ a m1 v ι1 H1, f m = .ok a m1 → Ex ι H ι1 H1 → MRel G ι1 H1 m1 → R ι1 H1 v a → PostG G R2 ι1 H1 (g a m1) Q2 E → Q v H1) : PostG G R ι H (f m) Q E := by
  unfold M.bind at h
  cases e : f m with
  | ok a m1 =>
    rw [e] at h
    exact fun v ι1 H1 x r1 d => k a m1 v ι1 H1 e x r1 d (PostG.later x h)
  | exc c y m1 =>
    rw [e] at h
    exact h
  | stuck =>
    rw [e] at h
    exact h
end

/-! ### slots -/
def ERel (G : Gl) (ι : List Addr) (H : Hp) (σ : L2.St) (e : Env) : Prop := e.length = σ.length ∧ ∀ (i : Nat) (w : W), e[i]? = some (some w) → ∃ v, σ[i]? = some (some v) ∧ DenW G ι H v w
section
variable {G : Gl} {ι ι' : List Addr} {H H' : Hp} {σ : L2.St} {e : Env}
theorem ERel.ex (x : Ex ι H ι' H') (r : ERel G ι H σ e) : ERel G ι' H' σ e := ⟨r.1, fun i w h => let ⟨v, a, b⟩ := r.2 i w h; ⟨v, a, b.ex x⟩⟩
theorem ERel.set (r : ERel G ι H σ e) (i : Nat) {v : V} {w : W} (d : DenW G ι H v w) : ERel G ι H (σ.set i (some v)) (e.set i (some w)) := by
  refine ⟨by simpa using r.1, fun j w' h => ?_⟩
  by_cases hj : i = j
  · subst hj
    by_cases hl : i < e.length
    · rw [List.getElem?_set_self hl] at h
      injection h with h
      injection h with h
      subst h
      exact ⟨v, List.getElem?_set_self (by rw [← r.1]; exact hl), d⟩
    · rw [List.getElem?_eq_none (by simpa using hl)] at h
      cases h
  · rw [List.getElem?_set_ne hj] at h
    obtain ⟨v', a, b⟩ := r.2 j w' h
    exact ⟨v', by rw [List.getElem?_set_ne hj]; exact a, b⟩
theorem ERel.unset (r : ERel G ι H σ e) (i : Nat) : ERel G ι H (σ.set i none) (e.set i none) := by
  refine ⟨by simpa using r.1, fun j w' h => ?_⟩
  by_cases hj : i = j
  · subst hj
    by_cases hl : i < e.length
    · rw [List.getElem?_set_self hl] at h
      cases h
    · rw [List.getElem?_eq_none (by simpa using hl)] at h
      cases h
  · rw [List.getElem?_set_ne hj] at h
    obtain ⟨v', a, b⟩ := r.2 j w' h
    exact ⟨v', by rw [List.getElem?_set_ne hj]; exact a, b⟩
theorem ERel.wip (r : ERel G ι H σ e) : ∀ vs : List Nat, ERel G ι H (L2.wipe σ vs) (wipeE e vs)
  | [] => r
  | v :: vs => by
    unfold L2.wipe wipeE
    exact (ERel.wip r vs).unset v
end

/-! ### readings -/
def tM (G : Gl) (W : WX) (f : Env → M Tn.W) : TE := fun σ H Q => ∃ ι e m, MRel G ι H m ∧ ERel G ι H σ e ∧ Post G ι H (f e m) Q fun c d H' => W c d σ H'
def tMB (G : Gl) (W : WX) (f : Env → M Bool) : TT := fun σ H Q => ∃ ι e m, MRel G ι H m ∧ ERel G ι H σ e ∧ PostB G ι H (f e m) Q fun c d H' => W c d σ H'
def tML (G : Gl) (W : WX) (f : Env → M (List Tn.W)) : TA := fun σ H Q => ∃ ι e m, MRel G ι H m ∧ ERel G ι H σ e ∧ PostL G ι H (f e m) Q fun c d H' => W c d σ H'

/-! ### defs, with no guard around -/
structure FnG (Pr : Program) (w : World) (K : PySem.W.Frag) (mg : Str → Option Value) (base : Heap) (k : Nat) (f : Addr) (fd : FuncData) (ps : List Str) (sp : Sp) : Prop where
  len : ∀ vs H Q E, sp vs H Q E → vs.length = ps.length
  run : ∀ (A : Around) (outer : List PySem.Env) (s : Shared) (H : Hp) (args : Args) (us : List Value) (vs : List V) (Q : VK) (E : XK), Room k A → A.guards = some [] → Env0 Pr w K mg base A outer s H →
    BindsTo s fd args (ps.zip us) → Vals vs us → sp vs H Q E → codeAny (model Pr w) A (.call (.ref f) args) (CR (L2.CX Pr w) outer Pr w H s Q E) s
theorem FnG.mono {Pr : Program} {w : World} {K : PySem.W.Frag} {mg : Str → Option Value} {base : Heap} {j k : Nat} {f : Addr} {fd : FuncData} {ps : List Str} {sp : Sp} (F : FnG Pr w K mg base j f fd ps sp) (h : j ≤ k) : FnG Pr w K mg base k f fd ps sp :=
  ⟨F.len, fun A o s H args us vs Q E hr => F.run A o s H args us vs Q E (hr.mono h)⟩
/-- a def by its body -/
theorem fnG_of {Pr : Program} {w : World} {K : PySem.W.Frag} {mg : Str → Option Value} {base : Heap} {k : Nat} {f : Addr} {name qual : Str} {params : Arguments} {body : List Stmt} {scope : Scope} {dV kV doc pm cdv ct oc : Value} {an od : Option Addr}
    {osl : Array (Option Value)} {N ps : List Str} {sp : Sp} (lk : K.lookup f = some ⟨oc, od, .func (PySem.W.fnOf name qual params body scope dV kV doc pm an cdv ct), osl⟩) (hcd : PySem.W.codeIn K cdv qual = true) (S : FnScope N ps scope)
    (len : ∀ vs H Q E, sp vs H Q E → vs.length = ps.length)
    (hbody : ∀ (A : Around) (outer : List PySem.Env) (s : Shared) (H : Hp) (vs : List V) (Q : VK) (E : XK), Room k (A.deeper (envOfC qual scope s.heap.objs.size f cdv)) → (A.deeper (envOfC qual scope s.heap.objs.size f cdv)).guards = some [] → sp vs H Q E →
      ∃ t, PSs (cxOf (L2.CX Pr w) Pr w K mg base N qual scope f cdv A outer s H E) body t ∧ t { nx := fun _ H' => Q .non H', rt := Q } (start N vs) H) :
    FnG Pr w K mg base (k + 1) f (PySem.W.fnOf name qual params body scope dV kV doc pm an cdv ct) ps sp := by
  refine ⟨len, fun A outer s H args us vs Q E hr hg e0 hb r hsp => ?_⟩
  have kin : K.In s.heap := e0.mod.kin.keeps fun b o z => (e0.bs b o z).1
  have free : s.heap.NoLimit := e0.mod.nolimit.keeps fun b o z => (e0.bs b o z).1
  have room := hr.deeper (envOfC qual scope s.heap.objs.size f cdv)
  obtain ⟨t, T, q⟩ := hbody A outer s H vs Q E room hg hsp
  have bound : ∀ y ∈ ps.zip us, scope.names.lookup y.1 = some .local ∨ (scope.names.lookup y.1 = some .cell ∧ ((cellsFrom (s.heap.objs.size + 1) scope.names []).lookup y.1).isSome = true) := by
    intro y hy
    have hp : y.1 ∈ ps := (List.of_mem_zip (a := y.1) (b := y.2) hy).1
    exact (S.par y.1 hp).imp id fun z => ⟨z, PySem.W.cellsFrom_some _ _ _ (.inl z)⟩
  refine codeAny_call_function hr.depth (kin _ _ lk) rfl S.co S.gen rfl (PySem.W.codeRec_of kin hcd) (hb _ _ _ _ ?_)
  refine wpAny_newFunctionEnv_cells S.kind bound ?_
  intro env ee s1 x
  subst ee
  refine ⟨free.keeps x.toInCall.keep, codeAny_func ?_⟩
  have I := inv_start (CX := L2.CX Pr w) (E := E) S hr.hd e0 (len _ _ _ _ hsp) r x
  refine wpAny_mono (T.run [] s1 (start N vs) H _ I q) ?_ fun _ _ z => z
  intro fl s2 z
  cases fl with
  | ret u =>
    obtain ⟨v, _, H2, J, rv, q2⟩ := z
    exact ⟨v, H2, J.os, J.bare, J.base, J.hok, rv, q2⟩
  | next =>
    obtain ⟨_, H2, J, q2⟩ := z
    exact ⟨.non, H2, J.os, J.bare, J.base, J.hok, rfl, q2⟩
  | brk => exact z.elim fun _ z => z.elim fun _ z => z.2.elim
  | cont => exact z.elim fun _ z => z.elim fun _ z => z.2.elim

/-! ### calls by values -/
section
variable {X : Cx} {W : WX} {k : Nat} {f C : Addr} {fd : FuncData} {ps : List Str} {sp : Sp} {pins : List (Addr × Obj)} {σ : L2.St} {H : Hp} {s : Shared} {Q : VK} {us : List Value} {vs : List V}
/-- what comes back of a call that stands in X -/
theorem back_ok {r : Result} {s' : Shared} (tk : Takes X W) (I : Inv X pins σ H s) (h : CR (L2.CX X.prog X.w) X.stack X.prog X.w H s Q (fun c d H' => W c d σ H') r s') : wants (EP X pins σ Q) X.xe r s' := by
  cases r with
  | error e => exact tk e s' (XE.of_call I (fun _ _ _ z => z) h)
  | ok fl =>
    cases fl with
    | ret u => exact I.after h
    | next => exact h.elim
    | brk => exact h.elim
    | cont => exact h.elim
theorem call_ok {kw : List (Str × Value)} (F : FnG X.prog X.w X.K X.mg X.base k f fd ps sp) (hr : Room k X.A) (gd : X.A.guards = some []) (tk : Takes X W) (I : Inv X pins σ H s) {qs : List Value} (hb : BindsTo s fd ⟨us, kw⟩ (ps.zip qs)) (r : Vals vs qs)
    (h : sp vs H Q fun c d H' => W c d σ H') : wpAny (model X.prog X.w) X.A (call (.ref f) us kw) (EP X pins σ Q) X.xe s :=
  wpAny_call (codeAny_mono (F.run X.A X.stack s H ⟨us, kw⟩ qs vs Q _ hr gd I.env0 hb r h) fun r s' hq => back_ok tk I hq)
end
end Tn

set_option Elab.async false
set_option linter.all false
set_option maxRecDepth 100000
namespace Tn
open PySem PySem.Spec PyProof.Rows L2

/-! ### fewer objects are told of -/
section
variable {G : Gl} {ι ι' : List Addr} {H : Hp}
mutual
theorem Den.less (x : ∀ a, a ∈ ι' → a ∈ ι) : ∀ {v : V} {d : D}, Den G ι H v d → Den G ι' H v d
  | _, _, .non => .non
  | _, _, .bl b => .bl b
  | _, _, .int i => .int i
  | _, _, .str h => .str h
  | _, _, .tup r h => .tup (r.imp (fun z => ⟨fun q => z.1 (x _ q), z.2⟩) id) (h.less x)
  | _, _, .lst h e l => .lst (fun q => h (x _ q)) e (l.less x)
  | _, _, .scr h => .scr h
  | _, _, .dic h e k o l => .dic (fun q => h (x _ q)) e k o (l.less x)
  | _, _, .ins h e f n l => .ins (fun q => h (x _ q)) e f n (l.less x)
  | _, _, .exn h1 h2 e1 e2 l => .exn (fun q => h1 (x _ q)) (fun q => h2 (x _ q)) e1 e2 (l.less x)
theorem DenL.less (x : ∀ a, a ∈ ι' → a ∈ ι) : ∀ {vs : List V} {ds : List D}, DenL G ι H vs ds → DenL G ι' H vs ds
  | _, _, .nil => .nil
  | _, _, .cons h t => .cons (h.less x) (t.less x)
end
theorem Caps.less {N : List Str} {cl : List (Str × Addr)} {vs : List V} (c : Caps ι H N cl vs) (n : Nat) : Caps (ι.take n) H N cl vs :=
  ⟨c.inj, fun p e => let ⟨h, q⟩ := c.all p e; ⟨fun z => h (List.mem_of_mem_take z), q⟩, c.at_⟩
mutual
theorem DenW.less {n : Nat} {v : V} : ∀ {w : W}, DenW G ι H v w → w.under n = true → DenW G (ι.take n) H v w
  | .d y, h, _ => by
    simp only [DenW] at h ⊢
    exact Den.less (fun a q => List.mem_of_mem_take q) h
  | .r i, h, u => by
    simp only [DenW] at h ⊢
    obtain ⟨a, e, q⟩ := h
    have hi : i < n := of_decide_eq_true (by simpa [W.under] using u)
    exact ⟨a, by rw [List.getElem?_take_of_lt hi]; exact e, q⟩
  | .lam k l, h, u => by
    simp only [DenW] at h ⊢
    obtain ⟨f, c, q, N, p, b, sc, cl, vs, pm, ct, e1, e2, e3, e4, e5, e6, e7, e8, e9⟩ := h
    exact ⟨f, c, q, N, p, b, sc, cl, vs, pm, ct, e1, fun z => e2 (List.mem_of_mem_take z), fun z => e3 (List.mem_of_mem_take z), e4, e5, e6, e7, e8.less n, DenWs.less e9 (by simpa [W.under] using u)⟩
theorem DenWs.less {n : Nat} : ∀ {vs : List V} {ws : List W}, DenWs G ι H vs ws → W.unders n ws = true → DenWs G (ι.take n) H vs ws
  | [], [], _, _ => by simp only [DenWs]
  | _ :: _, _ :: _, h, u => by
    have u2 := Bool.and_eq_true_iff.mp (by simpa only [W.unders] using u)
    simp only [DenWs] at h ⊢
    exact ⟨h.1.less u2.1, h.2.less u2.2⟩
  | [], _ :: _, h, _ => by simp only [DenWs] at h
  | _ :: _, [], h, _ => by simp only [DenWs] at h
end
theorem MoOk.less {n : Nat} {a : Addr} {o : MO} (h : MoOk G ι H a o) (u : o.under n = true) : MoOk G (ι.take n) H a o := by
  cases o with
  | lst ws => obtain ⟨vs, q, l⟩ := h; exact ⟨vs, q, l.less u⟩
  | dic ws => obtain ⟨vs, q, k, l⟩ := h; exact ⟨vs, q, k, l.less u⟩
  | ins c ws => obtain ⟨dx, fs, vs, q, z, k, l, n⟩ := h; exact ⟨dx, fs, vs, q, z, k, l.less u, n⟩
theorem MRel.cut {n : Nat} {m m1 : Mu} (r : MRel G ι H m) (h : cutMu n m = some m1) : MRel G (ι.take n) H m1 := by
  unfold cutMu at h
  cases e : (m.take n).all (MO.under n) with
  | false => rw [e] at h; cases h
  | true =>
    rw [e] at h
    have h2 : m.take n = m1 := Option.some.inj h
    subst h2
    refine ⟨r.nd.sublist (List.take_sublist _ _), by rw [List.length_take, List.length_take, r.len], fun i a o h1 h2 => ?_, r.tb⟩
    have hi : i < n := by
      by_cases q : i < n
      · exact q
      · rw [List.getElem?_eq_none (by rw [List.length_take]; omega)] at h1; cases h1
    have u := List.all_eq_true.mp e o (List.mem_of_getElem? h2)
    rw [List.getElem?_take_of_lt hi] at h1 h2
    exact (r.ok i a o h1 h2).less u
theorem Ex.take {ι2 : List Addr} {H2 : Hp} (x : Ex ι H ι2 H2) : ι2.take ι.length = ι := by
  obtain ⟨t, e⟩ := x.pre
  rw [← e]
  simp
theorem Ex.down {ι2 : List Addr} {H2 : Hp} (x : Ex ι H ι2 H2) : Ex ι H ι H2 := ⟨List.prefix_refl _, x.frz, fun a o h e n => ⟨h, (x.keep a o h e n).2⟩⟩
theorem DenL.ws : ∀ {vs : List V} {ds : List D}, DenL G ι H vs ds → DenWs G ι H vs (ds.map .d)
  | _, _, .nil => trivial
  | _, _, .cons h t => ⟨h, t.ws⟩
theorem DenWs.dat : ∀ {vs : List V} {ws : List W} {ds : List D}, DenWs G ι H vs ws → datOf ws = some ds → DenL G ι H vs ds
  | [], [], _, _, e => by cases e; exact .nil
  | v :: vs, .d x :: ws, ds, h, e => by
    cases q : datOf ws with
    | none => simp [datOf, q] at e
    | some r =>
      have e2 : x :: r = ds := by simpa [datOf, q] using e
      subst e2
      exact .cons h.1 (h.2.dat q)
  | _ :: _, .r _ :: _, _, _, e => by simp [datOf] at e
  | _ :: _, .lam _ _ :: _, _, _, e => by simp [datOf] at e
  | [], _ :: _, _, h, _ => h.elim
  | _ :: _, [], _, h, _ => h.elim
theorem DenWs.get : ∀ {vs : List V} {ws : List W} {i : Nat} {w : W}, DenWs G ι H vs ws → ws[i]? = some w → ∃ v, vs[i]? = some v ∧ DenW G ι H v w
  | [], [], _, _, _, e => by simp at e
  | v :: vs, x :: ws, 0, w, h, e => by
    have e2 : x = w := by simpa using e
    subst e2
    exact ⟨v, rfl, h.1⟩
  | v :: vs, x :: ws, i + 1, w, h, e => by
    obtain ⟨u, a, b⟩ := DenWs.get (i := i) (w := w) h.2 (by simpa using e)
    exact ⟨u, by simpa using a, b⟩
  | [], _ :: _, _, _, h, _ => h.elim
  | _ :: _, [], _, _, h, _ => h.elim
theorem DenL.get : ∀ {vs : List V} {ds : List D} {i : Nat} {w : D}, DenL G ι H vs ds → ds[i]? = some w → ∃ v, vs[i]? = some v ∧ Den G ι H v w
  | _, _, _, _, .nil, e => by simp at e
  | _, _, 0, w, .cons h t, e => ⟨_, rfl, by have e2 := Option.some.inj (show some _ = some w from e); rw [← e2]; exact h⟩
  | _, _, i + 1, w, .cons h t, e => by
    obtain ⟨v, a, b⟩ := t.get (i := i) (w := w) (by simpa using e)
    exact ⟨v, by simpa using a, b⟩
theorem DenL.append : ∀ {vs us : List V} {ds es : List D}, DenL G ι H vs ds → DenL G ι H us es → DenL G ι H (vs ++ us) (ds ++ es)
  | _, _, _, _, .nil, s => s
  | _, _, _, _, .cons h t, s => .cons h (t.append s)
theorem DenL.take : ∀ {vs : List V} {ds : List D} (n : Nat), DenL G ι H vs ds → DenL G ι H (vs.take n) (ds.take n)
  | _, _, 0, _ => .nil
  | _, _, _ + 1, .nil => .nil
  | _, _, n + 1, .cons h t => .cons h (t.take n)
theorem DenL.drop : ∀ {vs : List V} {ds : List D} (n : Nat), DenL G ι H vs ds → DenL G ι H (vs.drop n) (ds.drop n)
  | _, _, 0, r => r
  | _, _, _ + 1, .nil => .nil
  | _, _, n + 1, .cons _ t => t.drop n
/-- reading by the layer -/
theorem RdT.sq {a : Addr} {vs : List V} (h : RdT G ι H a vs) : SqT G.K H a vs := h.imp (·.2) id
theorem SqF.sq {K : PySem.W.Frag} {a : Addr} {vs : List V} (h : SqF K H a vs) : SqL K H a vs := h.imp (fun z => .inr z) id
end
end Tn

namespace Tn
open PySem PySem.Spec PyProof.Rows L2
/-! ### cells go -/
section
variable {G : Gl} {ι : List Addr} {H H' : Hp} {m : Mu}
/-- all stays but cells that were told of -/
def Subs (H H' : Hp) : Prop := ∀ a o, H a = some o → (∀ oc c, o ≠ CelO oc c) → H' a = some o
theorem cel_f {o ob : Obj} {u : HO} {c : Addr} (h : ∀ c, u ≠ .own c) : HO.frz o u ≠ CelO ob c := fun z => by
  injection z with _ z2
  exact h _ z2
theorem cel_n {u : HO} (h : ∀ o v, u ≠ .frz o v) : ∀ oc c, u ≠ CelO oc c := fun _ _ z => h _ _ z
theorem n_tup {l : List V} : ∀ o v, HO.tup l ≠ .frz o v := fun _ _ z => HO.noConfusion z
theorem n_lst {l : List V} : ∀ o v, HO.lst l ≠ .frz o v := fun _ _ z => HO.noConfusion z
theorem n_dK {l : List (Key × V)} : ∀ o v, HO.dK l ≠ .frz o v := fun _ _ z => HO.noConfusion z
theorem n_ins {a b : Addr} {l : List (Str × V)} : ∀ o v, HO.ins a b l ≠ .frz o v := fun _ _ z => HO.noConfusion z
theorem n_ext {p : Heap → Prop} : ∀ o v, HO.ext p ≠ .frz o v := fun _ _ z => HO.noConfusion z
theorem n_xd {l : List (Str × V)} : ∀ o v, HO.xd l ≠ .frz o v := fun _ _ z => HO.noConfusion z
theorem n_tbl {l : Array Value} : ∀ o v, HO.tbl l ≠ .frz o v := fun _ _ z => HO.noConfusion z
theorem Subs.rdT {a : Addr} {vs : List V} (x : Subs H H') (r : RdT G ι H a vs) : RdT G ι H' a vs := by
  rcases r with ⟨h, r | ⟨o, r⟩⟩ | r
  · exact .inl ⟨h, .inl (x _ _ r (cel_n n_tup))⟩
  · exact .inl ⟨h, .inr ⟨o, x _ _ r fun _ _ => cel_f fun _ z => HO.noConfusion z⟩⟩
  · exact .inr r
mutual
theorem Den.subs (x : Subs H H') : ∀ {v : V} {d : D}, Den G ι H v d → Den G ι H' v d
  | _, _, .non => .non
  | _, _, .bl b => .bl b
  | _, _, .int i => .int i
  | _, _, .str h => .str h
  | _, _, .tup r h => .tup (x.rdT r) (h.subs x)
  | _, _, .lst h e l => .lst h (x _ _ e (cel_n n_lst)) (l.subs x)
  | _, _, .scr h => .scr (h.imp (fun ⟨o, e⟩ => ⟨o, x _ _ e fun _ _ => cel_f fun _ z => HO.noConfusion z⟩) id)
  | _, _, .dic h e k o l => .dic h (x _ _ e (cel_n n_dK)) k o (l.subs x)
  | _, _, .ins h e f n l => .ins h (x _ _ e (cel_n n_ins)) f n (l.subs x)
  | _, _, .exn h1 h2 e1 e2 l => .exn h1 h2 (x _ _ e1 (cel_n n_ext)) (x _ _ e2 (cel_n n_xd)) (l.subs x)
theorem DenL.subs (x : Subs H H') : ∀ {vs : List V} {ds : List D}, DenL G ι H vs ds → DenL G ι H' vs ds
  | _, _, .nil => .nil
  | _, _, .cons h t => .cons (h.subs x) (t.subs x)
end
theorem DenW.subs (x : Subs H H') {v : V} {w : W} (h : DenW G ι H v w) (n : w.noL = true) : DenW G ι H' v w := by
  cases w with
  | d y => exact Den.subs x h
  | r i => exact h
  | lam k l => cases n
theorem DenWs.subs (x : Subs H H') : ∀ {vs : List V} {ws : List W}, DenWs G ι H vs ws → ws.all W.noL = true → DenWs G ι H' vs ws
  | [], [], _, _ => trivial
  | _ :: _, _ :: _, h, n => by
    have n2 := Bool.and_eq_true_iff.mp (by simpa only [List.all_cons] using n)
    exact ⟨h.1.subs x n2.1, h.2.subs x n2.2⟩
  | [], _ :: _, h, _ => h.elim
  | _ :: _, [], h, _ => h.elim
theorem MoOk.subs (x : Subs H H') {a : Addr} {o : MO} (h : MoOk G ι H a o) (n : o.noL = true) : MoOk G ι H' a o := by
  cases o with
  | lst ws => obtain ⟨vs, q, l⟩ := h; exact ⟨vs, x _ _ q (cel_n n_lst), l.subs x n⟩
  | dic ws => obtain ⟨vs, q, k, l⟩ := h; exact ⟨vs, x _ _ q (cel_n n_dK), k, l.subs x (by simpa [MO.noL, Function.comp_def] using n)⟩
  | ins c ws => obtain ⟨dx, fs, vs, q, z, k, l, e⟩ := h; exact ⟨dx, fs, vs, x _ _ q (cel_n n_ins), z, k, l.subs x (by simpa [MO.noL, Function.comp_def] using n), e⟩
theorem tabs_subs {T : List (Addr × Str)} (x : Subs H H') (t : LamX.Tabs T H) : LamX.Tabs T H' := fun p hp => by
  obtain ⟨ps, h1, h2, h3⟩ := t p hp
  refine ⟨ps, x _ _ h1 (cel_n n_tbl), h2, fun pos cv hc => ?_⟩
  obtain ⟨c, e1, e2⟩ := h3 pos cv hc
  exact ⟨c, e1, x _ _ e2 (cel_n n_ext)⟩
theorem MRel.subs (x : Subs H H') (r : MRel G ι H m) (n : m.all MO.noL = true) : MRel G ι H' m :=
  ⟨r.nd, r.len, fun i a o h1 h2 => (r.ok i a o h1 h2).subs x (List.all_eq_true.mp n o (List.mem_of_getElem? h2)), tabs_subs x r.tb⟩
end
end Tn

set_option Elab.async false
set_option linter.all false
set_option maxRecDepth 100000
set_option maxHeartbeats 1000000
namespace Tn
open PySem PySem.Spec PyProof.Rows PySem.W
section
variable {prog : Program} {w : World} {A : Around} {E : Value → Shared → Prop} {s : Shared} {K : PySem.W.Frag} {x C L f : Addr} {h₀ : Heap} {m : Str → Option Value} {ox : Obj} {od : Option Obj}
/-- an own operator whose right operand is of a type of the language -/
theorem own_op {op : Operator} {b : Value} {T : String} {rt : Bool} {q : Option Value} {Q : Value → Shared → Prop} (F : Fr h₀ L s.heap m) (X₀ : K.In h₀) (I : InstAt s.heap x ox C od) (hb : Looks (model prog w) s.heap (typeOf b) (.type T)) (hc : selfFirst K C = true)
    (hs : findIn K (.ref C) (PySem.dunder op.info.2) = some (some (.ref f))) (hno : findIn K (.ref C) (dunderR op.info.2) = some none) (hf : isFn K (.ref f) = true)
    (hR : fillsNumberSlot (.type T) op.info.2 = pure rt) (hS : isSubtype (.type T) (.ref C) = pure false) (hq : typeLookup (.type T) (dunderR op.info.2) = pure q)
    (h : wpAny (model prog w) A (call (.ref f) [.ref x, b]) (PySem.W.CmpBack Q) E s) : wpAny (model prog w) A (binaryOp op (.ref x) b) Q E s := by
  have X := X₀.keeps F.keep
  obtain ⟨cd, hcd, hm⟩ := any_some hc
  obtain ⟨rest, hm⟩ : ∃ rest, cd.mro = .ref C :: rest := by
    cases z : cd.mro with
    | nil => rw [z] at hm; cases hm
    | cons a r => rw [z] at hm; exact ⟨r, by rw [List.head?_cons] at hm; cases (beq_iff_eq.mp hm); rfl⟩
  have tr : wpAny (model prog w) A (tryMethod (.ref x) (PySem.dunder op.info.2) b) (fun o s' => ∃ v, o = some v ∧ Q v s') E s := by
    unfold tryMethod
    refine wpAny_bind (special_fn X I hs (beq_iff_eq.mp hf) (wpAny_mono h (fun v s' hv => ?_) fun _ _ e => e))
    cases v <;> first | exact hv.elim | exact wpAny_pure ⟨_, rfl, hv⟩
  unfold binaryOp
  refine wpAny_holding (wpAny_bind ?_)
  unfold binaryOp1
  refine wpAny_bind (I.type.here (wpAny_bind (hb.here (wpAny_bind ((fills_K X hcd hm hs).here ?_)))))
  have ne : (Value.ref C == Value.type T) = false := rfl
  simp only [ne, Bool.false_eq_true, if_false]
  refine wpAny_bind (wpAny_of_eq hR ?_)
  cases rt with
  | false =>
    simp only [Bool.and_false, Bool.false_eq_true, if_false, Bool.false_and]
    refine wpAny_bind (wpAny_pure ?_)
    simp only [Bool.false_eq_true, if_false]
    refine wpAny_bind (m := tryMethod (.ref x) _ b) (wpAny_mono tr (fun o s' ⟨v, ho, hv⟩ => ?_) fun _ _ e => e)
    subst ho
    exact wpAny_pure (wpAny_pure hv)
  | true =>
    simp only [Bool.and_self, if_true]
    refine wpAny_bind (wpAny_of_eq hS ?_)
    rw [if_neg (by decide)]
    have ns : wpAny (model prog w) A (numberSlotInPython (.ref C) op.info.2) (fun k s' => k = true ∧ s' = s) E s := by
      unfold numberSlotInPython
      refine wpAny_bind ((looks_findIn X hs).here ?_)
      refine wpAny_bind (wpAny_pure ?_)
      refine wpAny_bind ((looks_findIn X hno).here ?_)
      refine wpAny_bind (wpAny_pure ?_)
      exact wpAny_pure ⟨rfl, rfl⟩
    refine wpAny_bind (m := numberSlotInPython (.ref C) op.info.2) (wpAny_mono ns (fun k s' ⟨hk, hs'⟩ => ?_) fun _ _ e => e)
    subst hk
    subst hs'
    rw [if_pos rfl]
    refine wpAny_bind (m := numberSlotInPython (.type T) op.info.2) (wpAny_pure ?_)
    simp only [Bool.not_false, if_true]
    refine wpAny_bind (m := typeLookup (.type T) (dunderR op.info.2)) (wpAny_of_eq hq ?_)
    refine wpAny_bind (m := tryMethod (.ref x) (PySem.dunder op.info.2) b) (wpAny_mono tr (fun o s' ⟨v, ho, hv⟩ => ?_) fun _ _ e => e)
    subst ho
    exact wpAny_pure (wpAny_pure hv)
def noRef : List Value → Bool
  | [] => true
  | .ref _ :: _ => false
  | _ :: l => noRef l
theorem noRef_ok (C : Addr) : ∀ l : List Value, noRef l = true → l.contains (.ref C) = false
  | [], _ => rfl
  | a :: l, h => by
    rw [List.contains_cons]
    cases a with
    | ref _ => cases h
    | _ => rw [noRef_ok C l h]; rfl
/-- what the types of the language say of * -/
theorem mul_ty (T : String) (h : T ∈ ["int", "bool", "NoneType", "str", "tuple", "list", "dict"]) : (∃ rt, fillsNumberSlot (.type T) "mul" = pure rt) ∧ (∃ q, typeLookup (.type T) (dunderR "mul") = pure q) ∧ ∀ C : Addr, isSubtype (.type T) (.ref C) = pure false := by
  have key : ∀ T : String, (fastLookup T (PySem.dunder "mul")).isSome = true → (fastLookup T (dunderR "mul")).isSome = true → (match fastBuiltinMro T with | some l => noRef l | none => false) = true → (∃ rt, fillsNumberSlot (.type T) "mul" = pure rt) ∧ (∃ q, typeLookup (.type T) (dunderR "mul") = pure q) ∧ ∀ C : Addr, isSubtype (.type T) (.ref C) = pure false := fun T h1 h2 h3 => by
    obtain ⟨q1, h1⟩ := Option.isSome_iff_exists.mp h1
    obtain ⟨q2, h2⟩ := Option.isSome_iff_exists.mp h2
    have e1 : typeLookup (.type T) (PySem.dunder "mul") = pure q1 := by rw [typeLookup_type, builtinLookup_eq_fast, h1]
    have e2 : typeLookup (.type T) (dunderR "mul") = pure q2 := by rw [typeLookup_type, builtinLookup_eq_fast, h2]
    refine ⟨⟨(q1.isSome && !isSeqSlot q1) || (q2.isSome && !isSeqSlot q2), ?_⟩, ⟨q2, e2⟩, fun C => ?_⟩
    · unfold fillsNumberSlot
      simp only [e1, e2, pure_bind]
    · rw [isSubtype_type]
      cases e3 : fastBuiltinMro T with
      | none => rw [e3] at h3; cases h3
      | some l =>
        rw [e3] at h3
        simp only
        rw [noRef_ok C l h3]
  simp only [List.mem_cons, List.not_mem_nil, or_false] at h
  rcases h with rfl | rfl | rfl | rfl | rfl | rfl | rfl <;> exact key _ (by kernel_rfl) (by kernel_rfl) (by kernel_rfl)
end
end Tn

set_option Elab.async false
set_option linter.all false
set_option maxRecDepth 100000
set_option maxHeartbeats 1000000
namespace Tn
open PySem PySem.Spec PyProof.Rows PySem.W
section
variable {prog : Program} {w : World} {A : Around} {E : Value → Shared → Prop} {s : Shared} {K : PySem.W.Frag} {x C L f : Addr} {h₀ : Heap} {m : Str → Option Value} {ox : Obj} {od : Option Obj} {b tb : Value}
theorem ne_entry (X : K.In s.heap) (I : InstAt s.heap x ox C od) (hu : A.units < cLine) (hs : findIn K (.ref C) "__eq__" = some (some (.ref f))) (hf : isFn K (.ref f) = true) {Q : Fin → Shared → Prop}
    (h : wpAny (model prog w) A (call (.ref f) [.ref x, b]) (fun v s' => ∃ k, v = .bool k ∧ Q (.done (.ret (.bool (!k)))) s') E s) :
    wpAny (model prog w) A (Builtin.«object.__ne__» ⟨[.ref x, b], []⟩) Q E s := by
  unfold Builtin.«object.__ne__»
  repeat (first
    | with_reducible refine wpAny_cRoomFor hu ?_
    | (refine wpAny_bind (m := callSpecialIfBound? (.ref x) (Str.ofString "__eq__") [b])
        (ifBound_K X I hs hf (wpAny_mono h (fun r s' hr => by
          obtain ⟨k, rfl, hq⟩ := hr
          repeat (first | exact hq | exact wpAny_pure hq | exact wpAny_truthy_bool hq | (refine wpAny_bind (m := truthy (.bool _)) (wpAny_truthy_bool ?_)) | wp_step)) fun _ _ e => e)))
    | wp_step)
theorem ifBound_ne {M : Model} {args : List Value} {Q : Option Value → Shared → Prop} (X : K.In s.heap) (I : InstAt s.heap x ox C od) (hs : findIn K (.ref C) "__ne__" = some (some (.builtin "object.__ne__")))
    (h : wpAny M A (call (.builtin "object.__ne__") (.ref x :: args)) (fun v => Q (some v)) E s) : wpAny M A (callSpecialIfBound? (.ref x) "__ne__" args) Q E s := by
  simp only [callSpecialIfBound?, bindSpecialIfBound?]
  refine wpAny_holding (wpAny_bind (wpAny_bind (wpAny_bind (I.type.here ((looks_findIn X hs).here ?_)))))
  refine wpAny_bind (wpAny_askSetting (wpAny_ite ?_))
  have fin : wpAny M A (call (.builtin "object.__ne__") ([.ref x] ++ args) >>= fun v => pure (some v)) Q E s := wpAny_bind (wpAny_mono h (fun v s' h' => wpAny_pure h') fun _ _ h' => h')
  split
  · exact wpAny_bind (wpAny_of_eq (F.cmp_object.ne.bind _) (wpAny_pure (by exact fin)))
  · exact wpAny_tryCatch (wpAny_bind (wpAny_of_eq (F.cmp_object.ne.bind _) (wpAny_pure (by exact fin))))
/-- own != by the own == -/
theorem ne_K {Q : Value → Shared → Prop} (hu : A.units + 1 < cLine) (F₀ : Fr h₀ L s.heap m) (X₀ : K.In h₀) (I : InstAt s.heap x ox C od) (hb : Looks (model prog w) s.heap (typeOf b) tb) (hn : notFirst K C tb = true)
    (hm : mroIn K C (.type "object") = some true) (hne : findIn K (.ref C) "__ne__" = some (some (.builtin "object.__ne__")))
    (hs : findIn K (.ref C) "__eq__" = some (some (.ref f))) (hf : isFn K (.ref f) = true)
    (h : wpAny (model prog w) A.in1 (call (.ref f) [.ref x, b]) (fun v s' => ∃ k, v = .bool k ∧ Q (.bool (!k)) s') E s) : wpAny (model prog w) A (richCompare .NotEq (.ref x) b) Q E s := by
  have X := X₀.keeps F₀.keep
  have one : wpAny (model prog w) A (tryCompare (.ref x) (cmpInfo .NotEq).2.1 b) (fun r s' => ∃ v, r = some v ∧ Q v s') E s := by
    unfold tryCompare
    refine wpAny_bind (ifBound_ne X I hne (wpAny_call (codeAny_call_builtin F.cmp_object.ne.plain F.cmpEntry_ne (check_slot F.cmpKind_ne F.cmpSplit_ne (I.type.andThen (looks_mroIn X hm)) (F.cmpArgs_ne _ _) (ne_entry (A := A.in1) X I hu hs hf (wpAny_mono h (fun v s' hv => ?_) fun _ _ e => e))))))
    obtain ⟨k, rfl, hq⟩ := hv
    exact ⟨k, rfl, wpAny_pure ⟨_, rfl, hq⟩⟩
  unfold richCompare
  simp only [oneThing_ref]
  refine wpAny_holding (wpAny_bind (wpAny_cRoomFor (Nat.lt_of_succ_lt hu) ?_))
  refine wpAny_bind (I.type.here (wpAny_bind (hb.here ?_)))
  split
  · rename_i q
    have e : subIn K tb (.ref C) = some false := by
      rcases Bool.or_eq_true_iff.mp hn with e | e
      · rw [beq_iff_eq.mp e] at q; simp at q
      · exact beq_iff_eq.mp e
    refine wpAny_bind ((looks_subIn X e).here ?_)
    simp only [Bool.false_eq_true, if_false]
    refine wpAny_bind (wpAny_mono one (fun r s' z => ?_) fun _ _ e => e)
    obtain ⟨v, rfl, hq⟩ := z
    exact wpAny_pure hq
  · refine wpAny_bind (wpAny_pure ?_)
    simp only [Bool.false_eq_true, if_false]
    refine wpAny_bind (wpAny_mono one (fun r s' z => ?_) fun _ _ e => e)
    obtain ⟨v, rfl, hq⟩ := z
    exact wpAny_pure hq
end
end Tn

set_option Elab.async false
set_option linter.all false
set_option maxRecDepth 100000
namespace Tn
open PySem PySem.Spec PyProof.Rows L2

/-! ### what the top has left, by the tables -/
/-- every argument by its place -/
def PosB (G : Gl) (f : Nat) : Prop := G.isL f = false ∧ ∀ (s : Shared) (us : List Value), G.K.In s.heap → us.length = (G.ps f).length → BindsTo s (G.fd f) ⟨us, []⟩ ((G.ps f).zip us)
/-- a static method -/
structure StatIn (K : PySem.W.Frag) (C : Addr) (x : Str) (f : Addr) : Prop where
  ga : PySem.W.specialIn K (.ref C) "__getattribute__" = some (some (.builtin "type.__getattribute__"))
  rd : PySem.W.readsIn K C (.type "type") = true
  fd : ∃ p rest, PySem.W.findCls K (.ref C) (.type "type") x = some (.get (.builtin "staticmethod.__get__") (.ref p) .none (.ref C)) ∧ PySem.W.recIn K p "staticmethod" = some (.ref f :: rest)
  kp : PySem.W.keepIn K (.ref f) = true
structure ClsG (G : Gl) (c : Nat) (k : Tn.Cls) : Prop where
  cl : L2.Cls G.K (G.ca c)
  mkr : L2.Mk G.K (G.ca c) (G.fa k.init)
  fn : G.fn c = k.fields.map G.nm
  no : ∀ f, f ∈ k.fields → NoAttr G.K (G.ca c) (G.nm f)
  prop : ∀ f g, k.props.lookup f = some g → PosB G g ∧ ∃ p, PropOf G.K (G.ca c) (G.nm f) p (G.fa g)
  meth : ∀ m g, k.meths.lookup m = some g → m ∉ k.fields ∧ PosB G g ∧ Meth G.K (G.ca c) (G.nm m) (G.fa g)
  slf : PySem.W.selfFirst G.K (G.ca c) = true
  rml : PySem.W.findIn G.K (.ref (G.ca c)) (dunderR "mul") = some none
  ne : PySem.W.findIn G.K (.ref (G.ca c)) "__ne__" = some (some (.builtin "object.__ne__"))
  ha : PySem.W.findIn G.K (.ref (G.ca c)) "__class__" = some (some (.builtin "object.__class__"))
  hn : PySem.W.specialIn G.K (.builtin "object.__class__") "__get__" = some (some (.builtin "getset_descriptor.__get__"))
  htk : PySem.W.takesIn G.K (.builtin "object.__class__") = some true
  hm : PySem.W.mroIn G.K (G.ca c) (.type "object") = some true
  stat : ∀ m g, k.stats.lookup m = some g → PosB G g ∧ StatIn G.K (G.ca c) (G.nm m) (G.fa g)
def spF (G : Gl) (c : Nat → List W → M W) (f : Nat) : Sp := fun vs H Q E => G.isL f = false ∧ vs.length = (G.ps f).length ∧ ∃ ι ws m, MRel G ι H m ∧ DenWs G ι H vs ws ∧ Post G ι H (c f ws m) Q E
def FnsOk (G : Gl) (Pr : Program) (w : World) (mg : Str → Option Value) (base : Heap) (k : Nat) (c : Nat → List W → M W) : Prop := ∀ f, FnG Pr w G.K mg base k (G.fa f) (G.fd f) (G.ps f) (spF G c f)
/-- a lambda's call, wherever it stands -/
def LamsOk (G : Gl) (Pr : Program) (w : World) (mg : Str → Option Value) (base : Heap) (n : Nat) (c : Nat → List W → M W) : Prop := ∀ (A : Around) (outer : List PySem.Env) (s : Shared) (H : Hp) (ι : List Addr) (m : Mu) (k : Nat) (l : List W) (f : Addr) (Q : VK) (E : XK), Room n A → A.guards = some [] →
  Env0 Pr w G.K mg base A outer s H → MRel G ι H m → DenW G ι H (.ref f) (.lam k l) → l.all W.noL = true → m.all MO.noL = true → Post G ι H (c k l m) Q E → codeAny (model Pr w) A (.call (.ref f) ⟨[], []⟩) (CR (L2.CX Pr w) outer Pr w H s Q E) s
def GkOk (G : Gl) (mg : Str → Option Value) (g : Nat) : Gk → Prop
  | .cst d => ∃ u v, mg (G.gn g) = some u ∧ RelV v u ∧ ∀ ι H, Den G ι H v d
  | .fn f => mg (G.gn g) = some (.ref (G.fa f)) ∧ PySem.W.keepIn G.K (.ref (G.fa f)) = true
  | .cls c => mg (G.gn g) = some (.ref (G.ca c))
  | .exc c => mg (G.gn g) = some (.ref (G.xa c))
/-- a call's shape: what fills the parameters -/
def fillU (us : List Value) (fu : List (Sum Nat Value)) : List Value := fu.map fun q => match q with
  | .inl j => us.getD j .none
  | .inr u => u
def FillRel (G : Gl) : List (Sum Nat Value) → Fill → Prop
  | [], [] => True
  | .inl i :: r, .inl j :: r' => i = j ∧ FillRel G r r'
  | .inr u :: r, .inr d :: r' => (∃ v, RelV v u ∧ ∀ ι H, Den G ι H v d) ∧ FillRel G r r'
  | _, _ => False
def ShpF (G : Gl) (f n : Nat) (ks : List Nat) (fl : Fill) : Prop := G.isL f = false ∧ ∃ fu, FillRel G fu fl ∧ ∀ (s : Shared) (us ws : List Value), G.K.In s.heap → us.length = n → ws.length = ks.length → BindsTo s (G.fd f) ⟨us, (ks.map G.nm).zip ws⟩ ((G.ps f).zip (fillU (us ++ ws) fu))
def ShpC (G : Gl) (f n : Nat) (ks : List Nat) (fl : Fill) : Prop := G.isL f = false ∧ ∃ fu, FillRel G fu fl ∧ ∀ (s : Shared) (x : Value) (us ws : List Value), G.K.In s.heap → us.length = n → ws.length = ks.length → BindsTo s (G.fd f) ⟨x :: us, (ks.map G.nm).zip ws⟩ ((G.ps f).zip (x :: fillU (us ++ ws) fu))
def ShpOk (G : Gl) (P : Pg) (g n : Nat) (ks : List Nat) (fl : Fill) : Prop := match P.glo[g]? with
  | some (.fn f) => ShpF G f n ks fl
  | some (.cls c) => ∀ k, P.cls[c]? = some k → ShpC G k.init n ks fl
  | _ => True
def plainTs : List String := ["NoneType", "bool", "int", "str", "tuple", "list", "dict"]
def ctV (G : Gl) : Ct → Value
  | .int => .type "int"
  | .bool => .type "bool"
  | .str => .type "str"
  | .tup => .type "tuple"
  | .lst => .type "list"
  | .dic => .type "dict"
  | .own c => .ref (G.ca c)
  | .exc c => .ref (G.xa c)
  | .ve => .type "ValueError"
/-- built-in names that no module's name hides -/
def bltNs : List Str := [Str.ofString "len", Str.ofString "abs", Str.ofString "int", Str.ofString "str", Str.ofString "repr", Str.ofString "max", Str.ofString "min", Str.ofString "all", Str.ofString "list", Str.ofString "tuple", Str.ofString "range", Str.ofString "isinstance", Str.ofString "bool", Str.ofString "dict", Str.ofString "enumerate", Str.ofString "ValueError"]
/-- an error's __init__: super().__init__(value), then self.value = value -/
def errBody (p0 p1 p2 p3 p4 p5 p6 p7 p8 p9 : Pos) : List Stmt :=
  [.Expr (.Call (.Attribute (.Call (.Name "super" p0) [] [] p1) "__init__" p2) [.Name "value" p3] [] p4) p5, .Assign [.Attribute (.Name "self" p6) "value" p7] (.Name "value" p8) p9]
/-- an error's class: its __init__ and what super() finds -/
structure ErrMk (G : Gl) (C : Addr) : Prop where
  ex : ∃ (fI cda cc D : Addr) (name qual : Str) (params : Arguments) (scope : Scope) (dV kV doc pm ct oc ccl cl : Value) (an od cdd cld : Option Addr) (osl ccs csl : Array (Option Value)) (vs : Array Value) (tf : Tok) (cdD : ClassData) (ar : Arg) (p0 p1 p2 p3 p4 p5 p6 p7 p8 p9 : Pos),
    (PySem.W.findIn G.K (.ref C) "__init__" = some (some (.ref fI)) ∧ PySem.W.typeIn G.K (.ref fI) = some (.type "function") ∧ G.K.lookup fI = some ⟨oc, od, .func (PySem.W.ksFn name qual params (errBody p0 p1 p2 p3 p4 p5 p6 p7 p8 p9) scope dV kV doc pm an (.ref cda) ct cc), osl⟩ ∧ PySem.W.codeIn G.K (.ref cda) qual = true) ∧
    (∀ (s : Shared) (a b : Value), G.K.In s.heap → BindsTo s (PySem.W.ksFn name qual params (errBody p0 p1 p2 p3 p4 p5 p6 p7 p8 p9) scope dV kV doc pm an (.ref cda) ct cc) ⟨[a, b], []⟩ [("self", a), ("value", b)]) ∧
    ((params.posonlyargs ++ params.args).head? = some ar ∧ ar.arg = "self" ∧ scope.names.lookup ("self" : Str) = some .local ∧ scope.names.lookup ("value" : Str) = some .local ∧ scope.names.lookup ("super" : Str) = some .globalImplicit ∧ scope.names.lookup ("__class__" : Str) = some .free ∧ (∀ x ∈ scope.names, x.2 ≠ .cell) ∧ scope.kind = .function ∧ scope.isCoroutine = false ∧ scope.isGenerator = false ∧ (p2.endLine == p4.line) = true) ∧
    (G.K.lookup cda = some ⟨ccl, cdd, .fields vs, ccs⟩ ∧ vs[2]? = some (.str G.file tf) ∧ G.K.lookup cc = some ⟨cl, cld, .cell (some (.ref D)), csl⟩ ∧ PySem.W.clsIn G.K D = some cdD ∧ PySem.W.mroIn G.K C (.ref D) = some true ∧ PySem.W.nsIn G.K mainGlobals "super" = some none) ∧
    (PySem.W.nsIn G.K cStatics "thirdparty.any" = some none ∧ PySem.W.ks_superIn G.K C D "__init__" = some (some (.builtin "ValueError.__init__")) ∧ PySem.W.subIn G.K (.ref C) (.type "ValueError") = some true)
/-- what an error's class shows -/
structure ExcG (G : Gl) (c : Nat) : Prop where
  ox : L2.OexC G.K (G.xa c)
  fld : XfC G.K (G.xa c)
  no : PySem.W.findIn G.K (.ref (G.xa c)) "value" = some none
  mkr : ErrMk G (G.xa c)
  kx : PySem.W.excInitIn G.K (G.xa c) PySem.HandSPX.veTail "ValueError.__new__" = true
  ci : (PySem.W.clsIn G.K (G.xa c)).isSome = true
  ha : PySem.W.findIn G.K (.ref (G.xa c)) "__class__" = some (some (.builtin "object.__class__"))
  hn : PySem.W.specialIn G.K (.builtin "object.__class__") "__get__" = some (some (.builtin "getset_descriptor.__get__"))
  htk : PySem.W.takesIn G.K (.builtin "object.__class__") = some true
  hm : PySem.W.mroIn G.K (G.xa c) (.type "object") = some true
structure GoodP (G : Gl) (P : Pg) (mg : Str → Option Value) : Prop where
  inj : ∀ i j, G.nm i = G.nm j → i = j
  cls : ∀ c k, P.cls[c]? = some k → ClsG G c k
  glo : ∀ g k, P.glo[g]? = some k → GkOk G mg g k
  nf : ∀ c k c' k', P.cls[c]? = some k → P.cls[c']? = some k' → PySem.W.notFirst G.K (G.ca c) (.ref (G.ca c')) = true
  nfB : ∀ c k t, P.cls[c]? = some k → t ∈ plainTs → PySem.W.notFirst G.K (G.ca c) (.type t) = true
  kitB : ∀ t ct, t ∈ plainTs → ctOk P ct = true → PySem.W.kitOne G.K (.type t) (ctV G ct) = some (isiT t ct)
  kitO : ∀ c k ct, P.cls[c]? = some k → ctOk P ct = true → PySem.W.kitOne G.K (.ref (G.ca c)) (ctV G ct) = some (match ct with | .own c' => c == c' | _ => false)
  shp : ∀ g n ks fl, P.fill g n ks = some fl → ShpOk G P g n ks fl
  free : ∀ x : Str, x ∈ bltNs → mg x = none
  fnIn : ∀ c g, P.meth c nCall = some g → PySem.W.fnIn G.K (G.fa g) = true
  sys : ∃ o, G.K.lookup sysModules = some o ∧ o.cls ≠ .type "list"
  exc : ∀ c, c < P.nx → ExcG G c
  exS : ∀ c c', c < P.nx → c' < P.nx → PySem.W.exmOne G.K (.ref (G.xa c)) (.ref (G.xa c')) = some (c == c' || c' == 0)
  kitX : ∀ c ct, c < P.nx → ctOk P ct = true → PySem.W.kitOne G.K (.ref (G.xa c)) (ctV G ct) = some (isiX c ct)
  gloX : ∀ (g c : Nat), P.glo[g]? = some (Gk.exc c) → c < P.nx
  nms : G.nm nEq = "__eq__" ∧ G.nm nInvert = "__invert__" ∧ G.nm nRshift = "__rshift__" ∧ G.nm nMul = "__mul__" ∧ G.nm nCall = "__call__" ∧ G.nm nLen = "__len__" ∧ G.nm nGetitem = "__getitem__" ∧ G.nm nContains = "__contains__" ∧ G.nm nAdd = "__add__" ∧ G.nm nOr = "__or__" ∧ G.nm nNeg = "__neg__" ∧ G.nm nValue = "value"
structure Cok (G : Gl) (P : Pg) (C : Tn.Call) (X : Cx) (W : WX) (n : Nat) : Prop where
  k : X.K = G.K
  calm : X.calm = true
  room : Room n X.A
  gd : X.A.guards = some []
  tk : Takes X W
  nd : X.N.Nodup
  good : GoodP G P X.mg
  pf : (X.prog.main.file : Str) = G.file ∧ (X.prog.main.scope.names.lookup ("super" : Str)).isSome = false
  hi : FnsOk G X.prog X.w X.mg X.base n C.hi
  hiL : ∀ f ws m, C.hi f ws m ≠ .stuck → ws.length = (G.ps f).length
  hiM : LamsOk G X.prog X.w X.mg X.base n C.hi
  rm : C.rm = true → 1 ≤ n
  loL : ∀ f ws m, C.lo f ws m ≠ .stuck → ws.length = (G.ps f).length
  lo : (∃ j, j + 1 ≤ n ∧ FnsOk G X.prog X.w X.mg X.base j C.lo) ∨ ∀ f ws m, C.lo f ws m = .stuck

section
variable {G : Gl} {P : Pg} {C : Tn.Call} {X : Cx} {W : WX} {n : Nat} {pins : List (Addr × Obj)} {σ : L2.St} {H : Hp} {s : Shared} {ι : List Addr} {m : Mu} {Q : VK} {E : XK}
/-- a value that is here already -/
theorem Post.ret {v : V} {w : Tn.W} (h : Post G ι H (.ok w m) Q E) (r : MRel G ι H m) (d : DenW G ι H v w) : Q v H := h v ι H Ex.refl r d
theorem Post.retD {v : V} {d : D} (h : Post G ι H (.ok (.d d) m) Q E) (r : MRel G ι H m) (dd : Den G ι H v d) : Q v H := h v ι H Ex.refl r dd
/-- a new object -/
theorem Post.new {p : Addr} {o : HO} {d : D} (h : Post G ι H (.ok (.d d) m) Q E) (r : MRel G ι H m) (hp : H p = none) (dd : Den G ι (upd H p o) (.ref p) d) : Q (.ref p) (upd H p o) :=
  h (.ref p) ι (upd H p o) (Ex.new r hp) (r.new hp) dd
theorem DenL.new {p : Addr} {o : HO} {vs : List V} {ds : List D} (r : MRel G ι H m) (hp : H p = none) (d : DenL G ι H vs ds) : DenL G ι (upd H p o) vs ds := d.ex (Ex.new r hp)
theorem newTup {p : Addr} {vs : List V} {ds : List D} (r : MRel G ι H m) (hp : H p = none) (d : DenL G ι H vs ds) : Den G ι (upd H p (.tup vs)) (.ref p) (.tup ds) := .tup (.inl ⟨r.fresh hp, .inl upd_same⟩) (d.new r hp)
theorem newLst {p : Addr} {vs : List V} {ds : List D} (r : MRel G ι H m) (hp : H p = none) (d : DenL G ι H vs ds) : Den G ι (upd H p (.lst vs)) (.ref p) (.lst ds) := .lst (r.fresh hp) upd_same (d.new r hp)
theorem sm_log {i : Int} (h : Sm i = true) : i.natAbs.log2 < 1900 := by
  have h1 : i.natAbs < 2 ^ 1900 := of_decide_eq_true h
  exact PySem.Flt.log2_lt_of (by decide) h1
theorem strTop_le : strTop ≤ sizeLine := by rw [sizeLine_eq]; decide

theorem StrOk.append {x y : Str} (h1 : StrOk x) (h2 : StrOk y) (h : x.length + y.length ≤ strTop) : StrOk (x ++ y) := by
  obtain ⟨xc⟩ := x
  obtain ⟨yc⟩ := y
  refine ⟨?_, fun c hc => ?_⟩
  · show (xc ++ yc).size ≤ strTop
    rw [Array.size_append]
    exact h
  · have hc2 : c ∈ (xc ++ yc).toList := hc
    rw [Array.toList_append] at hc2
    rcases List.mem_append.mp hc2 with z | z
    · exact h1.2 c z
    · exact h2.2 c z

theorem Post.live {α β : Type} {R : List Addr → Hp → β → α → Prop} {r : Res α} {Q : β → Hp → Prop} (h : PostG G R ι H r Q E) : r ≠ .stuck := fun z => by
  rw [z] at h
  exact h
theorem Cok.kin (cx : Cok G P C X W n) (I : Inv X pins σ H s) : G.K.In s.heap := by
  rw [← cx.k]
  exact I.kIn
/-- a call one level below -/
theorem lo_ok (cx : Cok G P C X W n) {f : Nat} {vs : List V} {us : List Value} {ws : List Tn.W} (hb : PosB G f) (I : Inv X pins σ H s) (r : MRel G ι H m) (rv : Vals vs us) (dv : DenWs G ι H vs ws)
    (h : Post G ι H (C.lo f ws m) Q fun c d H' => W c d σ H') : wpAny (model X.prog X.w) X.A (call (.ref (G.fa f)) us) (EP X pins σ Q) X.xe s := by
  have hl := cx.loL f ws m (Post.live h)
  have hv : vs.length = (G.ps f).length := dv.length.trans hl
  rcases cx.lo with ⟨j, hj, F⟩ | z
  · have F2 := F f
    rw [← cx.k] at F2
    exact call_ok F2 (cx.room.mono (by omega)) cx.gd cx.tk I (hb.2 s us (cx.kin I) (rv.length ▸ hv)) rv ⟨hb.1, hv, ι, ws, m, r, dv, h⟩
  · rw [z] at h
    exact h.elim
/-- the same, out of a builtin -/
theorem lo_in1 (cx : Cok G P C X W n) {f : Nat} {vs : List V} {us : List Value} {ws : List Tn.W} (hb : PosB G f) (I : Inv X pins σ H s) (r : MRel G ι H m) (rv : Vals vs us) (dv : DenWs G ι H vs ws)
    (h : Post G ι H (C.lo f ws m) Q fun c d H' => W c d σ H') : wpAny (model X.prog X.w) X.A.in1 (call (.ref (G.fa f)) us) (EP X pins σ Q) X.xe s := by
  have hl := cx.loL f ws m (Post.live h)
  have hv : vs.length = (G.ps f).length := dv.length.trans hl
  rcases cx.lo with ⟨j, hj, F⟩ | z
  · have F2 := F f
    rw [← cx.k] at F2
    exact wpAny_call (codeAny_mono (F2.run X.A.in1 X.stack s H ⟨us, []⟩ us vs Q _ ((cx.room.mono hj).in1) cx.gd I.env0.in1 (hb.2 s us (cx.kin I) (rv.length ▸ hv)) rv ⟨hb.1, hv, ι, ws, m, r, dv, h⟩) fun r s' hq => back_ok cx.tk I hq)
  · rw [z] at h
    exact h.elim
theorem hi_ok (cx : Cok G P C X W n) {f : Nat} {vs : List V} {us : List Value} {ws : List Tn.W} (hb : PosB G f) (I : Inv X pins σ H s) (r : MRel G ι H m) (rv : Vals vs us) (dv : DenWs G ι H vs ws)
    (h : Post G ι H (C.hi f ws m) Q fun c d H' => W c d σ H') : wpAny (model X.prog X.w) X.A (call (.ref (G.fa f)) us) (EP X pins σ Q) X.xe s := by
  have hl := cx.hiL f ws m (Post.live h)
  have hv : vs.length = (G.ps f).length := dv.length.trans hl
  have F2 := cx.hi f
  rw [← cx.k] at F2
  exact call_ok F2 cx.room cx.gd cx.tk I (hb.2 s us (cx.kin I) (rv.length ▸ hv)) rv ⟨hb.1, hv, ι, ws, m, r, dv, h⟩

/-! ### an instance's own look -/
theorem Den.insAt {v : V} {c : Nat} {ds : List D} (d : Den G ι H v (.ins c ds)) : ∃ a dx fs vs, v = .ref a ∧ a ∉ ι ∧ H a = some (.ins (G.ca c) dx fs) ∧ (G.fn c).map (fun f => fs.lookup f) = vs.map some ∧ (∀ f v, fs.lookup f = some v → f ∈ G.fn c) ∧ DenL G ι H vs ds := by
  cases d with
  | ins h e f n l => exact ⟨_, _, _, _, rfl, h, e, f, n, l⟩
theorem inst_at (I : Inv X pins σ H s) {a C dx : Addr} {fs : List (Str × V)} (e : H a = some (.ins C dx fs)) : ∃ od, PySem.W.InstAt s.heap a (PySem.W.instObj C dx) C (some od) ∧ ∀ f, fs.lookup f = none → PySem.W.lookIn f od = some none := by
  obtain ⟨mA, O, r, _, _, _⟩ := ins_get I.hok e
  obtain ⟨od, J, hl⟩ := O.look
  exact ⟨od, J, fun f h => by rw [hl]; exact congrArg some (RelO.none_of (by rw [← h]; exact r f))⟩
theorem back_cmp {v : Value} {s1 : Shared} (h : EP X pins σ Q v s1) : PySem.W.CmpBack (EP X pins σ Q) v s1 := by
  obtain ⟨w, H1, I1, r, q⟩ := h
  cases w with
  | non => cases r; exact ⟨.non, _, I1, rfl, q⟩
  | bl b => cases r; exact ⟨.bl b, _, I1, rfl, q⟩
  | int i => obtain ⟨t, rfl⟩ := r; exact ⟨.int i, _, I1, ⟨t, rfl⟩, q⟩
  | str i => obtain ⟨t, rfl⟩ := r; exact ⟨.str i, _, I1, ⟨t, rfl⟩, q⟩
  | byt i => obtain ⟨t, rfl⟩ := r; exact ⟨.byt i, _, I1, ⟨t, rfl⟩, q⟩
  | flt i => obtain ⟨t, rfl⟩ := r; exact ⟨.flt i, _, I1, ⟨t, rfl⟩, q⟩
  | ref i => cases r; exact ⟨.ref i, _, I1, rfl, q⟩
  | ty i => cases r; exact ⟨.ty i, _, I1, rfl, q⟩
theorem Pg.meth_at {P : Pg} {c nm g : Nat} (h : P.meth c nm = some g) : ∃ k, P.cls[c]? = some k ∧ k.meths.lookup nm = some g := by
  unfold Pg.meth at h
  cases e : P.cls[c]? with
  | none => rw [e] at h; cases h
  | some k => rw [e] at h; exact ⟨k, rfl, h⟩
/-- binary operators of two instances -/
theorem bin_ins (cx : Cok G P C X W n) {op : Operator} {g c nm : Nat} {x y : V} {v u : Value} {ds ds2 : List D} (hm : P.meth c nm = some g) (hn : G.nm nm = PySem.dunder op.info.2)
    (I : Inv X pins σ H s) (r : MRel G ι H m) (rx : RelV x v) (ry : RelV y u) (dx : Den G ι H x (.ins c ds)) (dy : Den G ι H y (.ins c ds2))
    (h : Post G ι H (C.lo g [.d (.ins c ds), .d (.ins c ds2)] m) Q fun c d H' => W c d σ H') : wpAny (model X.prog X.w) X.A (binaryOp op v u) (EP X pins σ Q) X.xe s := by
  obtain ⟨k, hk, hm⟩ := Pg.meth_at hm
  obtain ⟨a1, dx1, fs1, vs1, rfl, _, e1, _⟩ := dx.insAt
  obtain ⟨a2, dx2, fs2, vs2, rfl, _, e2, _⟩ := dy.insAt
  cases rx
  cases ry
  have cg := cx.good.cls c k hk
  obtain ⟨_, pb, mt⟩ := cg.meth nm g hm
  obtain ⟨od1, J1, _⟩ := inst_at I e1
  obtain ⟨od2, J2, _⟩ := inst_at I e2
  obtain ⟨m0, F⟩ := I.fr
  have mi := mt.at_
  rw [hn] at mi
  refine PySem.W.binop_K F (by rw [← cx.k]; exact I.ok.mod.kin) J1 J2.type cg.slf mi mt.fn ?_
  exact wpAny_mono (lo_ok (vs := [.ref a1, .ref a2]) (ws := [.d (.ins c ds), .d (.ins c ds2)]) cx pb I r (.cons rfl (.cons rfl .nil)) ⟨dx, dy, trivial⟩ h) (fun z s1 hz => back_cmp hz) fun _ _ e => e
/-! ### types -/
def tyD (G : Gl) : D → Value
  | .non => .type "NoneType"
  | .bl _ => .type "bool"
  | .int _ => .type "int"
  | .str _ => .type "str"
  | .tup _ => .type "tuple"
  | .lst _ => .type "list"
  | .dic _ => .type "dict"
  | .ins c _ => .ref (G.ca c)
  | .exn c _ => .ref (G.xa c)
  | .scr _ => .type "list"
theorem looks_at {M : Model} {h : Heap} {a : Addr} {o : Obj} {t : Value} (e : h.get? a = some o) (c : o.cls = t) : PySem.W.Looks M h (typeOf (.ref a)) t := c ▸ (PySem.W.Looks.ld e).andThen .now
theorem Den.ty (hk : X.K = G.K) (I : Inv X pins σ H s) {v : V} {d : D} {u : Value} (h : Den G ι H v d) (r : RelV v u) : PySem.W.Looks (model X.prog X.w) s.heap (typeOf u) (tyD G d) := by
  cases h with
  | non => cases r; exact .of_pure rfl
  | bl b => cases r; exact .of_pure rfl
  | int i => obtain ⟨t, rfl⟩ := r; exact .of_pure rfl
  | str i => obtain ⟨t, rfl⟩ := r; exact .of_pure rfl
  | tup q l =>
    cases r
    have q := q.sq
    rw [← hk] at q
    obtain ⟨its, rv, ⟨o, h1, h2, k, h3⟩, _⟩ := I.tuple q
    exact looks_at h1 h2
  | lst q e l =>
    cases r
    obtain ⟨its, rv, ⟨o, k, h1, h2, _, h3⟩, _⟩ := I.list (SqL.of e)
    exact looks_at h1 h2
  | scr q =>
    cases r
    have q := q.sq
    rw [← hk] at q
    obtain ⟨its, rv, ⟨o, k, h1, h2, _, h3⟩, _⟩ := I.list q
    exact looks_at h1 h2
  | dic q e =>
    cases r
    obtain ⟨_, hs, vs, rk, ob, es, ep, h1, h2, h3, h4, h5, h6⟩ := I.hok _ _ e
    exact looks_at h1 h2.1
  | ins q e =>
    cases r
    obtain ⟨od, J, _⟩ := inst_at I e
    exact J.type
  | exn q1 q2 e1 e2 =>
    cases r
    obtain ⟨⟨oe, vs, h1, h2, _⟩, _⟩ := I.hok _ _ e1
    exact looks_at h1 h2

/-- an own operator * with a right operand that is plain data -/
theorem bin_own (cx : Cok G P C X W n) {g c : Nat} {x y : V} {v u : Value} {ds : List D} {d2 : D} (hm : P.meth c nMul = some g)
    (I : Inv X pins σ H s) (r : MRel G ι H m) (rx : RelV x v) (ry : RelV y u) (dx : Den G ι H x (.ins c ds)) (dy : Den G ι H y d2) (ht : (tyS d2).isSome = true)
    (h : Post G ι H (C.lo g [.d (.ins c ds), .d d2] m) Q fun c d H' => W c d σ H') : wpAny (model X.prog X.w) X.A (binaryOp .Mult v u) (EP X pins σ Q) X.xe s := by
  obtain ⟨n0, n1, n2, n3, _⟩ := cx.good.nms
  obtain ⟨k, hk, hm⟩ := Pg.meth_at hm
  obtain ⟨a1, dx1, fs1, vs1, rfl, _, e1, _⟩ := dx.insAt
  cases rx
  have cg := cx.good.cls c k hk
  obtain ⟨_, pb, mt⟩ := cg.meth nMul g hm
  obtain ⟨od1, J1, _⟩ := inst_at I e1
  obtain ⟨m0, F⟩ := I.fr
  have mi := mt.at_
  rw [n3] at mi
  obtain ⟨T, hT, hT2⟩ : ∃ T : String, tyD G d2 = .type T ∧ T ∈ ["int", "bool", "NoneType", "str", "tuple", "list", "dict"] := by
    cases d2 <;> first | (cases ht; done) | exact ⟨_, rfl, by simp⟩
  have lk := Den.ty cx.k I dy ry
  rw [hT] at lk
  obtain ⟨⟨rt, hR⟩, ⟨q, hq⟩, hS⟩ := mul_ty T hT2
  refine own_op (op := .Mult) F (by rw [← cx.k]; exact I.ok.mod.kin) J1 lk cg.slf mi cg.rml mt.fn hR (hS _) hq ?_
  exact wpAny_mono (lo_ok (vs := [.ref a1, y]) (ws := [.d (.ins c ds), .d d2]) cx pb I r (.cons rfl (.cons ry .nil)) ⟨dx, dy, trivial⟩ h) (fun z s1 hz => back_cmp hz) fun _ _ e => e
theorem bin_ok (cx : Cok G P C X W n) {op : Operator} {x y : V} {v u : Value} {a b : Tn.W} (I : Inv X pins σ H s) (r : MRel G ι H m) (rx : RelV x v) (ry : RelV y u) (dx : DenW G ι H x a) (dy : DenW G ι H y b)
    (h : Post G ι H (binD P C op a b m) Q fun c d H' => W c d σ H') : wpAny (model X.prog X.w) X.A (binaryOp op v u) (EP X pins σ Q) X.xe s := by
  have nms := cx.good.nms
  unfold binD at h
  split at h
  · -- ints
    rename_i i j
    cases dx
    cases dy
    cases op with
    | Add => exact op_add pins s σ H _ _ v u Q I rx ry ⟨i, j, rfl, rfl, Post.retD h r (.int _)⟩
    | Sub => exact op_sub pins s σ H _ _ v u Q I rx ry ⟨i, j, rfl, rfl, Post.retD h r (.int _)⟩
    | Mult =>
      simp only at h
      cases e : (Sm i && Sm j) with
      | false => rw [e] at h; exact h.elim
      | true =>
        rw [e] at h
        obtain ⟨e1, e2⟩ := Bool.and_eq_true_iff.mp e
        have l1 := sm_log e1
        have l2 := sm_log e2
        exact op_mulW pins s σ H _ _ v u Q I rx ry ⟨i, j, rfl, rfl, (by unfold CMulW; omega), Post.retD h r (.int _)⟩
    | FloorDiv =>
      simp only at h
      cases e : (decide (0 < j) && Sm j) with
      | false => rw [e] at h; exact h.elim
      | true =>
        rw [e] at h
        obtain ⟨e1, e2⟩ := Bool.and_eq_true_iff.mp e
        have l2 := sm_log e2
        exact op_fdivW pins s σ H _ _ v u Q I rx ry ⟨i, j, rfl, rfl, ⟨of_decide_eq_true e1, by omega⟩, Post.retD h r (.int _)⟩
    | Mod =>
      simp only at h
      cases e : decide (0 < j) with
      | false => rw [e] at h; exact h.elim
      | true =>
        rw [e] at h
        exact op_mod pins s σ H _ _ v u Q I rx ry ⟨i, j, rfl, rfl, of_decide_eq_true e, Post.retD h r (.int _)⟩
    | Pow =>
      simp only at h
      cases e : (decide (0 ≤ j) && (decide (j ≤ 1000) && decide (i.natAbs < 2 ^ 1000))) with
      | false => rw [e] at h; exact h.elim
      | true =>
        rw [e] at h
        obtain ⟨e1, e2⟩ := Bool.and_eq_true_iff.mp e
        obtain ⟨e2, e3⟩ := Bool.and_eq_true_iff.mp e2
        have l1 : (0 : Int) ≤ j := of_decide_eq_true e1
        have l2 : j ≤ 1000 := of_decide_eq_true e2
        have l3 : i.natAbs < 2 ^ 1000 := of_decide_eq_true e3
        obtain ⟨t, rfl⟩ := rx
        obtain ⟨t', rfl⟩ := ry
        have l4 : Builtin.Int.intBits i ≤ 1001 := by
          have z := PySem.Flt.log2_lt_of (by decide) l3
          unfold Builtin.Int.intBits
          split <;> omega
        refine pow_int l1 ?_ ⟨.int _, H, I.tok _, ⟨_, rfl⟩, Post.retD h r (.int _)⟩
        have l5 : (Builtin.Int.intBits i : Int) * j ≤ 1001 * 1000 := Int.mul_le_mul (by omega) l2 l1 (by omega)
        omega
    | _ => exact h.elim
  · -- texts
    rename_i i j
    cases dx with
    | str h1 =>
      cases dy with
      | str h2 =>
        cases op with
        | Add =>
          simp only at h
          cases e : decide (i.length + j.length ≤ strTop) with
          | false => rw [e] at h; exact h.elim
          | true =>
            rw [e] at h
            have l := of_decide_eq_true e
            exact op_add_str pins s σ H _ _ v u Q I rx ry ⟨i, j, rfl, rfl, Nat.le_trans l strTop_le, Post.retD h r (Den.str (h1.append h2 l))⟩
        | _ => exact h.elim
  · -- tuples
    rename_i i j
    cases dx with
    | tup r1 l1 =>
      cases dy with
      | tup r2 l2 =>
        rename_i a1 vs1 a2 vs2
        cases op with
        | Add =>
          simp only at h
          cases e : decide (i.length + j.length ≤ strTop) with
          | false => rw [e] at h; exact h.elim
          | true =>
            rw [e] at h
            have l := of_decide_eq_true e
            have e1 := l1.length
            have e2 := l2.length
            have sz := strTop_le
            have q1 := r1.sq
            have q2 := r2.sq
            rw [← cx.k] at q1 q2
            refine op_catA pins s σ H _ _ v u Q I rx ry ⟨a1, a2, vs1, vs2, rfl, rfl, q1, q2, by omega, fun z => ?_, fun _ z => ?_, fun _ _ p hp => ?_⟩
            · subst z
              cases l1
              exact Post.retD h r (Den.tup r2 l2)
            · subst z
              cases l2
              rw [List.append_nil] at h
              exact Post.retD h r (Den.tup r1 l1)
            · exact Post.new h r hp (newTup r hp (l1.append l2))
        | _ => exact h.elim
  · -- lists
    rename_i i j
    cases dx with
    | lst n1 r1 l1 =>
      cases dy with
      | lst n2 r2 l2 =>
        rename_i a1 vs1 a2 vs2
        cases op with
        | Add =>
          simp only at h
          cases e : decide (i.length + j.length ≤ strTop) with
          | false => rw [e] at h; exact h.elim
          | true =>
            rw [e] at h
            have l := of_decide_eq_true e
            have e1 := l1.length
            have e2 := l2.length
            have sz := strTop_le
            exact op_cat pins s σ H _ _ v u Q I rx ry ⟨a1, a2, vs1, vs2, rfl, rfl, r1, r2, by omega, fun p hp => Post.new h r hp (newLst r hp (l1.append l2))⟩
        | _ => exact h.elim
  · -- a list, so many times
    rename_i i k
    cases op with
    | Mult =>
      simp only at h
      cases e : ((decide (0 ≤ k) && decide (k ≤ (strTop : Int))) && decide (i.length * k.toNat ≤ strTop)) with
      | false => rw [e] at h; exact h.elim
      | true =>
        rw [e] at h
        obtain ⟨e1, e2⟩ := Bool.and_eq_true_iff.mp e
        obtain ⟨e3, e4⟩ := Bool.and_eq_true_iff.mp e1
        have e2 := of_decide_eq_true e2
        have e3 := of_decide_eq_true e3
        have e4 := of_decide_eq_true e4
        cases dx with
        | lst n1 r1 l1 =>
          rename_i a1 vs1
          cases dy
          have el := l1.length
          have sz := strTop_le
          have st : (strTop : Int) = 4000000 := rfl
          refine op_rep pins s σ H _ _ v u Q I rx ry ⟨a1, k, vs1, rfl, rfl, r1, by omega, by omega, by rw [el]; omega, fun p hp => Post.new h r hp (newLst r hp ?_)⟩
          have rp : ∀ n : Nat, DenL G ι H (List.replicate n vs1).flatten (List.replicate n i).flatten := fun n => by
            induction n with
            | zero => exact .nil
            | succ n ih =>
              rw [List.replicate_succ, List.replicate_succ, List.flatten_cons, List.flatten_cons]
              exact l1.append ih
          exact rp _
    | _ => exact h.elim
  · -- instances
    rename_i c ds c' y'
    cases e : dunName op with
    | none => rw [e] at h; exact h.elim
    | some nm =>
      rw [e] at h
      simp only at h
      cases e2 : (c == c') with
      | false => rw [e2] at h; exact h.elim
      | true =>
        rw [e2] at h
        have e3 : c = c' := by simpa using e2
        subst e3
        unfold dund at h
        simp only [cond_true] at h
        cases e4 : P.meth c nm with
        | none => rw [e4] at h; exact h.elim
        | some g =>
          rw [e4] at h
          refine bin_ins cx e4 ?_ I r rx ry dx dy h
          obtain ⟨n0, n1, n2, n3, n4, n5, n6, n7, n8, n9, _⟩ := nms
          cases op <;> first | (cases e; first | exact n2 | exact n3 | exact n8 | exact n9) | (cases e; done)
  · cases op with
    | Mult =>
      simp only at h
      rename_i c ds d2 _
      cases e : (tyS d2).isSome with
      | false => rw [e] at h; exact h.elim
      | true =>
        rw [e] at h
        unfold dund at h
        simp only [cond_true] at h
        cases e4 : P.meth c nMul with
        | none => rw [e4] at h; exact h.elim
        | some g =>
          rw [e4] at h
          exact bin_own cx e4 I r rx ry dx dy e h
    | _ => exact h.elim
  · -- a list that grows, and a list
    rename_i i y'
    unfold addL at h
    split at h
    · rename_i l e
      cases ed : datOf l with
      | none => rw [ed] at h; exact h.elim
      | some x' =>
        rw [ed] at h
        simp only at h
        cases e5 : decide (x'.length + y'.length ≤ strTop) with
        | false => rw [e5] at h; exact h.elim
        | true =>
          rw [e5] at h
          obtain ⟨a1, ha, rfl⟩ := dx
          obtain ⟨vs1, e1, dw⟩ := r.ok i a1 _ ha e
          have l1 := dw.dat ed
          have l := of_decide_eq_true e5
          cases dy with
          | lst n2 r2 l2 =>
            rename_i a2 vs2
            have e1' := l1.length
            have e2' := l2.length
            have sz := strTop_le
            exact op_cat pins s σ H _ _ v u Q I rx ry ⟨a1, a2, vs1, vs2, rfl, rfl, e1, r2, by omega, fun p hp => Post.new h r hp (newLst r hp (l1.append l2))⟩
    · exact h.elim
  · exact h.elim
end
end Tn

set_option Elab.async false
set_option linter.all false
set_option maxRecDepth 100000
namespace Tn
open PySem PySem.Spec PyProof.Rows L2

section
variable {G : Gl} {P : Pg} {C : Tn.Call} {X : Cx} {W : WX} {n : Nat} {pins : List (Addr × Obj)} {σ : L2.St} {H : Hp} {s : Shared} {ι : List Addr} {m : Mu} {Q : VK} {E : XK}
theorem pys_cons {x : D} {l : List D} {ps : List PyData} (h : D.pys (x :: l) = some ps) : ∃ p q, x.py = some p ∧ D.pys l = some q ∧ ps = p :: q := by
  unfold D.pys at h
  cases e1 : x.py with
  | none => rw [e1] at h; cases h
  | some p =>
    cases e2 : D.pys l with
    | none => rw [e1, e2] at h; cases h
    | some q => rw [e1, e2] at h; cases h; exact ⟨p, q, rfl, rfl, rfl⟩
theorem pyk_split : ∀ {l : List (Key × D)} {ps : List (PyData × PyData)}, D.pyk l = some ps → ps.map (·.1) = l.map (fun q => keyP q.1) ∧ D.pys (l.map (·.2)) = some (ps.map (·.2))
  | [], _, h => by cases h; exact ⟨rfl, rfl⟩
  | (k, x) :: r, ps, h => by
    unfold D.pyk at h
    cases e1 : x.py with
    | none => rw [e1] at h; cases h
    | some p =>
      cases e2 : D.pyk r with
      | none => rw [e1, e2] at h; cases h
      | some q =>
        rw [e1, e2] at h
        cases h
        obtain ⟨a, b⟩ := pyk_split e2
        refine ⟨by simp [a], ?_⟩
        show D.pys (x :: r.map (·.2)) = _
        unfold D.pys
        rw [e1, b]
        rfl
theorem readsAll_keys {w : World} {Pr : Program} {h : Heap} : ∀ {es : List DictEntry} {kvs : List (Key × Value)}, Pairs (mixKind Pr w) es kvs → ReadsAll h (es.map (·.key)) (kvs.map fun q => keyP q.1) []
  | _, _, .nil => .nil
  | _, _, .cons (e := e) (kv := kv) h1 h2 t => by
    have q := readsAll_keys (h := h) t
    have k : Reads h e.key (keyP kv.1) [] := by
      rcases keyIs_shape (show keyIs kv.1 e.key = true from h1) with ⟨i, tk, e1, e2⟩ | ⟨z, tk, e1, e2⟩
      · rw [e1, e2]
        exact .int i tk
      · rw [e1, e2]
        exact .str z tk
    exact .cons (as := []) (bs := []) k q
theorem pairs_vals {w : World} {Pr : Program} : ∀ {es : List DictEntry} {kvs : List (Key × Value)}, Pairs (mixKind Pr w) es kvs → es.map (·.val) = kvs.map (·.2)
  | _, _, .nil => rfl
  | _, _, .cons h1 h2 t => by rw [List.map_cons, List.map_cons, h2, pairs_vals t]
theorem kv_split : ∀ {kvs : List (Key × V)} {vs : List (Key × Value)}, KV kvs vs → kvs.map (·.1) = vs.map (·.1) ∧ Vals (kvs.map (·.2)) (vs.map (·.2))
  | _, _, .nil => ⟨rfl, .nil⟩
  | _, _, .cons h t => by
    obtain ⟨a, b⟩ := kv_split t
    exact ⟨by rw [List.map_cons, List.map_cons, h.1, a], .cons h.2 b⟩
/-- what data stand for can be read -/
theorem Den.reads (hk : X.K = G.K) (hy : ∃ o, G.K.lookup sysModules = some o ∧ o.cls ≠ .type "list") (I : Inv X pins σ H s) {v : V} {d : D} (h : Den G ι H v d) : ∀ p u, d.py = some p → RelV v u → ∃ as, Reads s.heap u p as ∧ sysModules ∉ as := by
  have nosys : ∀ (a : Addr) (o : Obj), s.heap.get? a = some o → o.cls = .type "list" → a ≠ sysModules := fun a o e c z => by
    obtain ⟨o2, e2, c2⟩ := hy
    rw [← hk] at e2
    have e3 := I.kIn _ _ e2
    rw [← z, e] at e3
    cases e3
    exact c2 c
  refine Den.rec (motive_1 := fun v d _ => ∀ p u, d.py = some p → RelV v u → ∃ as, Reads s.heap u p as ∧ sysModules ∉ as) (motive_2 := fun vs ds _ => ∀ ps us, D.pys ds = some ps → Vals vs us → ∃ as, ReadsAll s.heap us ps as ∧ sysModules ∉ as)
    ?_ ?_ ?_ ?_ ?_ ?_ ?_ ?_ ?_ ?_ ?_ ?_ h
  · intro p u e r; cases e; cases r; exact ⟨_, .none, by simp⟩
  · intro b p u e r; cases e; cases r; exact ⟨_, .bool b, by simp⟩
  · intro i p u e r; cases e; obtain ⟨t, rfl⟩ := r; exact ⟨_, .int i t, by simp⟩
  · intro x h p u e r; cases e; obtain ⟨t, rfl⟩ := r; exact ⟨_, .str _ t, by simp⟩
  · intro a vs ds h l ih p u e r
    cases e1 : D.pys ds with
    | none => simp [D.py, e1] at e
    | some ps =>
      have e2 : PyData.tuple ps = p := by simpa [D.py, e1] using e
      subst e2
      cases r
      have q := h.sq
      rw [← hk] at q
      obtain ⟨its, rv, ⟨o, h1, h2, k, h3⟩, _⟩ := I.tuple q
      obtain ⟨as, z, y⟩ := ih _ _ e1 rv
      exact ⟨_, .tuple h1 h2 h3 (by simpa using z), y⟩
  · intro a vs ds h e0 l ih p u e r
    cases e1 : D.pys ds with
    | none => simp [D.py, e1] at e
    | some ps =>
      have e2 : PyData.list ps = p := by simpa [D.py, e1] using e
      subst e2
      cases r
      obtain ⟨its, rv, ⟨o, k, h1, h2, _, h3⟩, _⟩ := I.list (SqL.of e0)
      obtain ⟨as, z, y⟩ := ih _ _ e1 rv
      refine ⟨_, .list h1 h2 h3 (by simpa using z), fun q => ?_⟩
      rcases List.mem_cons.mp q with q | q
      · exact nosys _ _ h1 h2 q.symm
      · exact y q
  · intro a l h p u e r
    simp [D.py] at e
  · intro a kvs kds h e0 k o l ih p u e r
    cases e1 : D.pyk kds with
    | none => simp [D.py, e1] at e
    | some ps =>
      have e2 : PyData.dict ps = p := by simpa [D.py, e1] using e
      subst e2
      cases r
      obtain ⟨z1, z2⟩ := pyk_split e1
      obtain ⟨_, hs, vs, rk, ob, es, ep, h1, h2, h3, h4, h5, h6⟩ := I.hok _ _ e0
      obtain ⟨k1, k2⟩ := kv_split rk
      obtain ⟨as, z, y⟩ := ih _ _ z2 k2
      have q := readsAll_keys (h := s.heap) h5
      refine ⟨_, .dict h1 h2.1 h3 (as := []) (bs := as) ?_ ?_, fun q => ?_⟩
      · rw [z1]
        have e3 : kds.map (fun q => keyP q.1) = vs.map (fun q => keyP q.1) := by
          have e4 := congrArg (List.map keyP) (k.symm.trans k1)
          simpa [List.map_map, Function.comp_def] using e4
        rw [e3]
        exact q
      · rw [pairs_vals h5]
        exact z
      · have q2 : sysModules = a ∨ sysModules ∈ as := by simpa using q
        rcases q2 with q2 | q2
        · rw [q2] at hs
          simp at hs
        · exact y q2
  · intros; rename_i e _; simp [D.py] at e
  · intros; rename_i e _; simp [D.py] at e
  · intro ps us e r; cases e; cases r; exact ⟨_, .nil, by simp⟩
  · intro v vs d ds h t ih1 ih2 ps us e r
    obtain ⟨p, q, e1, e2, rfl⟩ := pys_cons e
    cases r with
    | cons r1 r2 =>
      obtain ⟨as, z1, y1⟩ := ih1 _ _ e1 r1
      obtain ⟨bs, z2, y2⟩ := ih2 _ _ e2 r2
      exact ⟨_, .cons z1 z2, fun q => (List.mem_append.mp q).elim y1 y2⟩

/-! ### repr -/
def CpOk (x : Str) : Prop := ∀ c ∈ x.cps.toList, c < 16 ^ 8
theorem cp_append {x y : Str} (h1 : CpOk x) (h2 : CpOk y) : CpOk (x ++ y) := fun c hc => by
  have hc2 : c ∈ (x.cps ++ y.cps).toList := hc
  rw [Array.toList_append] at hc2
  exact (List.mem_append.mp hc2).elim (h1 c) (h2 c)
theorem char_lt (c : Char) : c.toNat < 16 ^ 8 := by
  have h := c.valid
  simp only [UInt32.isValidChar, Nat.isValidChar] at h
  have ht : c.toNat = c.val.toNat := rfl
  rw [ht]
  omega
theorem cp_ofString (z : String) : CpOk (Str.ofString z) := fun c hc => by
  rw [Str.ofString_eq_toList] at hc
  obtain ⟨d, _, rfl⟩ := List.mem_map.mp (by simpa using hc)
  exact char_lt d
theorem reprChar_lt (q c : Nat) (hc : c < 16 ^ 8) : ∀ d ∈ Builtin.Str.reprChar q c, d < 16 ^ 8 := by
  have hexs : ∀ w, ∀ d ∈ (List.replicate (w - ((Nat.toDigits 16 c).map Char.toNat).length) 48 ++ (Nat.toDigits 16 c).map Char.toNat), d < 16 ^ 8 := fun w d hd => by
    rcases List.mem_append.mp hd with h | h
    · rw [(List.mem_replicate.mp h).2]
      decide
    · obtain ⟨e, _, rfl⟩ := List.mem_map.mp h
      exact char_lt e
  have two : ∀ (a b d : Nat), a < 16 ^ 8 → b < 16 ^ 8 → d ∈ [a, b] → d < 16 ^ 8 := fun a b d ha hb hd => by
    rcases List.mem_cons.mp hd with rfl | h
    · exact ha
    · rw [List.mem_singleton.mp h]
      exact hb
  intro d hd
  unfold Builtin.Str.reprChar at hd
  split at hd
  · exact two 92 c d (by decide) hc hd
  split at hd
  · exact two _ _ d (by decide) (by decide) hd
  split at hd
  · exact two _ _ d (by decide) (by decide) hd
  split at hd
  · exact two _ _ d (by decide) (by decide) hd
  split at hd
  · rw [List.mem_singleton.mp hd]
    exact hc
  split at hd
  · rcases List.mem_append.mp hd with h | h
    · exact two _ _ d (by decide) (by decide) h
    · exact hexs 2 d h
  split at hd
  · rcases List.mem_append.mp hd with h | h
    · exact two _ _ d (by decide) (by decide) h
    · exact hexs 4 d h
  · rcases List.mem_append.mp hd with h | h
    · exact two _ _ d (by decide) (by decide) h
    · exact hexs 8 d h
theorem fold_cp (q : Nat) : ∀ (l : List Nat) (acc : Array Nat), (∀ c ∈ l, c < 16 ^ 8) → (∀ c ∈ acc.toList, c < 16 ^ 8) → ∀ c ∈ (l.foldl (fun out c => out ++ (Builtin.Str.reprChar q c).toArray) acc).toList, c < 16 ^ 8
  | [], acc, _, h => h
  | d :: r, acc, hl, h => by
    rw [List.foldl_cons]
    refine fold_cp q r _ (fun c hc => hl c (List.mem_cons_of_mem _ hc)) fun c hc => ?_
    have hc3 := Array.mem_append.mp (Array.mem_toList_iff.mp hc)
    exact hc3.elim (fun z => h c (Array.mem_toList_iff.mpr z)) fun z => reprChar_lt q d (hl d List.mem_cons_self) c (by simpa using z)
theorem cp_reprText {x : Str} (h : CpOk x) : CpOk (reprText x) := fun c hc => by
  have hq : reprQuote x < 16 ^ 8 := by unfold reprQuote; split <;> decide
  have hc2 : c ∈ ((x.cps.foldl (fun out c => out ++ (Builtin.Str.reprChar (reprQuote x) c).toArray) #[reprQuote x]).push (reprQuote x)).toList := hc
  rw [Array.toList_push] at hc2
  rcases List.mem_append.mp hc2 with z | z
  · simp only [← Array.foldl_toList] at z
    refine fold_cp _ _ _ h (fun d hd => ?_) c z
    have e : d = reprQuote x := by simpa using hd
    rw [e]
    exact hq
  · rw [List.mem_singleton.mp z]
    exact hq
theorem cp_textFrom : ∀ (ts : List Str) (k : Nat) (acc : Str), CpOk acc → (∀ t ∈ ts, CpOk t) → CpOk (textFrom k acc ts)
  | [], _, _, h, _ => h
  | t :: ts, k, acc, h, hs => cp_textFrom ts (k + 1) _ (cp_append (cp_append h (cp_ofString _)) (hs t List.mem_cons_self)) fun u hu => hs u (List.mem_cons_of_mem _ hu)
theorem cp_join : ∀ (ts : List Str), (∀ t ∈ ts, CpOk t) → CpOk (Str.join ", " ts)
  | [], _ => fun c hc => by simp [Str.join, Str.empty] at hc
  | [t], h => h t List.mem_cons_self
  | t :: u :: r, h => cp_append (cp_append (h t List.mem_cons_self) (cp_ofString _)) (cp_join (u :: r) fun z hz => h z (List.mem_cons_of_mem _ hz))
theorem strLen {x y : Str} : (x ++ y).length = x.length + y.length := Array.size_append
theorem joinLen (ts : List Str) : (Str.join ", " ts).length ≤ piled ts := by
  by_cases h : ts = []
  · subst h
    simp [Str.join, Str.empty, Str.length]
  · have := join_length_add ts h
    omega
theorem listLen (ts : List Str) : (listText ts).length ≤ piled ts + 3 := by
  unfold listText
  rw [strLen]
  cases ts with
  | nil => show (textFrom 0 "[" []).length + ("]" : Str).length ≤ _; simp [textFrom]; decide
  | cons t r =>
    have h := textFrom_length_pos r 1 (("[" : Str) ++ (if (0 : Nat) > 0 then ", " else "" : String) ++ t) (Nat.succ_pos 0)
    have e : ((("[" : Str) ++ (if (0 : Nat) > 0 then ", " else "" : String) ++ t)).length = 1 + t.length := by
      rw [strLen, strLen]
      rfl
    have e2 : textFrom 0 "[" (t :: r) = textFrom 1 (("[" : Str) ++ (if (0 : Nat) > 0 then ", " else "" : String) ++ t) r := rfl
    rw [e2, h, e, piled_cons]
    have e3 : ((("]" : String) : Str)).length = 1 := rfl
    omega
theorem tupLen (ts : List Str) : (tupleText ts).length ≤ piled ts + 3 := by
  unfold tupleText
  rw [strLen, strLen]
  have h := joinLen ts
  have e1 : ((("(" : String) : Str)).length = 1 := rfl
  have e2 : (Str.ofString (if ts.length == 1 then ",)" else ")" : String)).length ≤ 2 := by split <;> decide
  omega
theorem dicLen (ts : List Str) : (dictText ts).length ≤ piled ts + 3 := by
  unfold dictText
  rw [strLen, strLen]
  have h := joinLen ts
  have e1 : ((("{" : String) : Str)).length = 1 := rfl
  have e2 : ((("}" : String) : Str)).length = 1 := rfl
  omega
theorem intTxt {i : Int} (h : Sm i = true) : (Str.ofString (toString i)).length ≤ 1901 := by
  have h1 := int_text_length_le (k := 1900) (by decide) (sm_log h)
  rw [Str.ofString_eq_toList]
  have e : (toString i).toList.length = (toString i).length := String.length_toList
  simp only [Str.length, List.size_toArray, List.length_map] 
  omega
/-- a text of repr: its bound, its signs -/
structure Shows (d : D) (p : PyData) : Prop where
  len : p.shown.length ≤ d.bnd
  sh : p.showable = true
  cp : CpOk p.shown
abbrev ShowsIf (d : D) : Prop := ∀ p, d.py = some p → d.bnd ≤ strTop → Shows d p
theorem all_shows : ∀ (ds : List D), (∀ d ∈ ds, ShowsIf d) → ∀ ps, D.pys ds = some ps → D.bnds ds ≤ strTop → piled (PyData.shownAll ps) ≤ D.bnds ds ∧ PyData.showableAll ps = true ∧ ∀ t ∈ PyData.shownAll ps, CpOk t
  | [], _, ps, e, _ => by cases e; exact ⟨Nat.le_refl _, rfl, fun t h => by simp [PyData.shownAll] at h⟩
  | d :: ds, hd, ps, e, hb => by
    obtain ⟨p, q, e1, e2, rfl⟩ := pys_cons e
    have hb2 : d.bnd + 2 + D.bnds ds ≤ strTop := by simpa [D.bnds] using hb
    have a := hd d List.mem_cons_self p e1 (by omega)
    obtain ⟨b1, b2, b3⟩ := all_shows ds (fun x hx => hd x (List.mem_cons_of_mem _ hx)) q e2 (by omega)
    refine ⟨?_, by simp [PyData.showableAll, a.sh, b2], fun u hu => ?_⟩
    · have := a.len
      simp only [PyData.shownAll, D.bnds, piled_cons]
      omega
    · rcases List.mem_cons.mp (by simpa [PyData.shownAll] using hu) with z | z
      · rw [z]; exact a.cp
      · exact b3 u z
theorem int_shows (i : Int) : ShowsIf (.int i) := fun p e hb => by
  cases e
  cases hs : Sm i with
  | false => rw [D.bnd, hs] at hb; exact absurd hb (by decide)
  | true =>
    have h1 := intTxt hs
    refine ⟨?_, ?_, cp_ofString _⟩
    · rw [D.bnd, hs]
      show (Str.ofString (toString i)).length ≤ 2000
      omega
    · have h2 := sm_log hs
      show decide (i.natAbs.log2 < 1920) = true
      exact decide_eq_true (by omega)
theorem str_shows {x : Str} (hx : StrOk x) : ShowsIf (.str x) := fun p e hb => by
  cases e
  exact ⟨PySem.StrLaws.reprText_len x hx.2, rfl, cp_reprText hx.2⟩
theorem key_shows {k : Key} (hk : keyOk k) (hb : keyB k ≤ strTop) : (keyP k).shown.length ≤ keyB k ∧ (keyP k).showable = true ∧ CpOk (keyP k).shown := by
  cases k with
  | inl i => have z := int_shows i _ rfl hb; exact ⟨z.len, z.sh, z.cp⟩
  | inr x => have z := str_shows hk _ rfl hb; exact ⟨z.len, z.sh, z.cp⟩
theorem kv_shows : ∀ (kds : List (Key × D)), (∀ q ∈ kds, keyOk q.1) → (∀ q ∈ kds, ShowsIf q.2) → ∀ ps, D.pyk kds = some ps → D.bndk kds ≤ strTop → piled (PyData.shownKv ps) ≤ D.bndk kds ∧ PyData.showableKv ps = true ∧ ∀ t ∈ PyData.shownKv ps, CpOk t
  | [], _, _, ps, e, _ => by cases e; exact ⟨Nat.le_refl _, rfl, fun t h => by simp [PyData.shownKv] at h⟩
  | (k, d) :: ds, hk, hd, ps, e, hb => by
    unfold D.pyk at e
    cases e1 : d.py with
    | none => rw [e1] at e; cases e
    | some p =>
      cases e2 : D.pyk ds with
      | none => rw [e1, e2] at e; cases e
      | some q =>
        rw [e1, e2] at e
        cases e
        have hb2 : keyB k + d.bnd + 4 + D.bndk ds ≤ strTop := by simpa [D.bndk] using hb
        have a := hd (k, d) List.mem_cons_self p e1 (show d.bnd ≤ strTop by omega)
        obtain ⟨c1, c2, c3⟩ := key_shows (hk (k, d) List.mem_cons_self) (show keyB k ≤ strTop by omega)
        obtain ⟨b1, b2, b3⟩ := kv_shows ds (fun x hx => hk x (List.mem_cons_of_mem _ hx)) (fun x hx => hd x (List.mem_cons_of_mem _ hx)) q e2 (by omega)
        have a1 := a.len
        have e3 : ((": " : String) : Str).length = 2 := rfl
        refine ⟨?_, by simp only [PyData.showableKv, a.sh, b2]; rw [c2]; rfl, fun u hu => ?_⟩
        · simp only [PyData.shownKv, D.bndk, piled_cons, strLen]
          have a2 : p.shown.length ≤ d.bnd := a1
          have c4 : (keyP k).shown.length ≤ keyB k := c1
          omega
        · rcases List.mem_cons.mp (by simpa [PyData.shownKv] using hu) with z | z
          · rw [z]
            exact cp_append (cp_append c3 (cp_ofString _)) a.cp
          · exact b3 u z
theorem Den.shows {v : V} {d : D} (h : Den G ι H v d) : ShowsIf d := by
  refine Den.rec (motive_1 := fun v d _ => ShowsIf d) (motive_2 := fun vs ds _ => ∀ d ∈ ds, ShowsIf d)
    ?_ ?_ ?_ ?_ ?_ ?_ ?_ ?_ ?_ ?_ ?_ ?_ h
  · intro p e _; cases e; exact ⟨by decide, rfl, cp_ofString _⟩
  · intro b p e _
    cases e
    refine ⟨?_, rfl, ?_⟩
    · cases b <;> decide
    · cases b <;> exact cp_ofString _
  · exact fun i => int_shows i
  · exact fun hx => str_shows hx
  · intro a vs ds h l ih p e hb
    cases e1 : D.pys ds with
    | none => simp [D.py, e1] at e
    | some ps =>
      have e2 : PyData.tuple ps = p := by simpa [D.py, e1] using e
      subst e2
      have hb2 : D.bnds ds + 3 ≤ strTop := by simpa [D.bnd] using hb
      obtain ⟨h1, h2, h3⟩ := all_shows ds ih ps e1 (by omega)
      have h4 := tupLen (PyData.shownAll ps)
      refine ⟨by simp only [PyData.shown, D.bnd]; omega, by simpa [PyData.showable] using h2, ?_⟩
      simp only [PyData.shown, tupleText]
      exact cp_append (cp_append (cp_ofString _) (cp_join _ h3)) (cp_ofString _)
  · intro a vs ds h e0 l ih p e hb
    cases e1 : D.pys ds with
    | none => simp [D.py, e1] at e
    | some ps =>
      have e2 : PyData.list ps = p := by simpa [D.py, e1] using e
      subst e2
      have hb2 : D.bnds ds + 3 ≤ strTop := by simpa [D.bnd] using hb
      obtain ⟨h1, h2, h3⟩ := all_shows ds ih ps e1 (by omega)
      have h4 := listLen (PyData.shownAll ps)
      refine ⟨by simp only [PyData.shown, D.bnd]; omega, by simpa [PyData.showable] using h2, ?_⟩
      simp only [PyData.shown, listText]
      exact cp_append (cp_textFrom _ _ _ (cp_ofString _) h3) (cp_ofString _)
  · intro a l h p e hb
    simp [D.py] at e
  · intro a kvs kds h e0 k o l ih p e hb
    cases e1 : D.pyk kds with
    | none => simp [D.py, e1] at e
    | some ps =>
      have e2 : PyData.dict ps = p := by simpa [D.py, e1] using e
      subst e2
      have hb2 : D.bndk kds + 3 ≤ strTop := by simpa [D.bnd] using hb
      obtain ⟨h1, h2, h3⟩ := kv_shows kds o (fun q hq => ih q.2 (List.mem_map_of_mem hq)) ps e1 (by omega)
      have h4 := dicLen (PyData.shownKv ps)
      refine ⟨by simp only [PyData.shown, D.bnd]; omega, by simpa [PyData.showable] using h2, ?_⟩
      simp only [PyData.shown, dictText]
      exact cp_append (cp_append (cp_ofString _) (cp_join _ h3)) (cp_ofString _)
  · intros; intro p e _; simp [D.py] at e
  · intros; intro p e _; simp [D.py] at e
  · intro d h; simp at h
  · intro v vs d ds h t ih1 ih2 x hx
    rcases List.mem_cons.mp hx with rfl | z
    · exact ih1
    · exact ih2 x z
end
end Tn

set_option Elab.async false
set_option linter.all false
set_option maxRecDepth 100000
namespace Tn
open PySem PySem.Spec PyProof.Rows L2
theorem eqTs_e {f : D → D → Option Bool} : ∀ {l r : List D} {k : Bool}, eqTs f l r = some k → l.length = r.length ∧ ∃ e : Nat → Bool, (∀ (j : Nat) (a b : D), l[j]? = some a → r[j]? = some b → f a b = some (e j)) ∧ k = (List.range l.length).all e
  | [], [], k, h => by
    cases h
    exact ⟨rfl, fun _ => true, fun j a b h => by simp at h, rfl⟩
  | a :: l, b :: r, k, h => by
    simp only [eqTs] at h
    cases e1 : f a b with
    | none => rw [e1] at h; cases h
    | some x =>
      cases e2 : eqTs f l r with
      | none => rw [e1, e2] at h; cases h
      | some y =>
        rw [e1, e2] at h
        cases h
        obtain ⟨hl, e, he, hk⟩ := eqTs_e e2
        refine ⟨by simp [hl], fun j => match j with | 0 => x | i + 1 => e i, fun j a' b' h1 h2 => ?_, ?_⟩
        · cases j with
          | zero =>
            cases h1
            cases h2
            exact e1
          | succ i => exact he i a' b' (by simpa using h1) (by simpa using h2)
        · rw [List.length_cons, List.range_succ_eq_map, List.all_cons, List.all_map, hk]
          rfl
  | [], _ :: _, k, h => by cases h
  | _ :: _, [], k, h => by cases h
section
variable {G : Gl} {P : Pg} {C : Tn.Call} {X : Cx} {W : WX} {n : Nat} {pins : List (Addr × Obj)} {σ : L2.St} {H : Hp} {s : Shared} {ι : List Addr} {m : Mu} {Q : VK} {E : XK}
theorem leafQ_ok (cx : Cok G P C X W n) {x y : V} {v u : Value} {a b : D} {k : Bool} (I : Inv X pins σ H s) (rx : RelV x v) (ry : RelV y u) (dx : Den G ι H x a) (dy : Den G ι H y b) (h : leafQ a b = some k) :
    (∀ A : Around, A.units + 30 < cLine → SeqAt.EqAt A s v u k) ∧ (x = y → k = true) := by
  unfold leafQ at h
  cases e1 : a.py with
  | none => rw [e1] at h; cases h
  | some p =>
    cases e2 : b.py with
    | none => rw [e1, e2] at h; cases h
    | some q =>
      rw [e1, e2] at h
      simp only at h
      cases e3 : ((p.plain && q.plain) && decide (p.depth ≤ 30)) with
      | false => rw [e3] at h; cases h
      | true =>
        rw [e3] at h
        cases h
        obtain ⟨s1, s2⟩ := Bool.and_eq_true_iff.mp e3
        obtain ⟨t1, t2⟩ := Bool.and_eq_true_iff.mp s1
        have s2 := of_decide_eq_true s2
        obtain ⟨as, r1, _⟩ := dx.reads cx.k cx.good.sys I p v e1 rx
        obtain ⟨bs, r2, _⟩ := dy.reads cx.k cx.good.sys I q u e2 ry
        refine ⟨fun A hu => SeqAt.eqAt_plain p q A s v u as bs r1 r2 t1 t2 (by
          have := Nat.min_le_left p.depth q.depth
          omega), fun e => ?_⟩
        subst e
        obtain ⟨cs, r3, _⟩ := dy.reads cx.k cx.good.sys I q v e2 rx
        have := SeqAt.plain_unique p q v as cs t1 r1 r3
        subst this
        exact SeqAt.eqv_refl_plain p t1
theorem dl_get {vs : List V} {ds : List D} {its : List Value} (d : DenL G ι H vs ds) (rv : Vals vs its) {j : Nat} (hj : j < its.toArray.size) : ∃ x a, vs[j]? = some x ∧ ds[j]? = some a ∧ RelV x its.toArray[j] ∧ Den G ι H x a := by
  have hj2 : j < its.length := by simpa using hj
  have hj1 : j < vs.length := by rw [rv.length]; exact hj2
  have hj3 : j < ds.length := by rw [← d.length]; exact hj1
  obtain ⟨x, e1, dx⟩ := d.get (List.getElem?_eq_getElem hj3)
  obtain ⟨w, e2, rw'⟩ := rv.get e1
  refine ⟨x, ds[j], e1, List.getElem?_eq_getElem hj3, ?_, dx⟩
  have e3 : its[j]? = some its[j] := List.getElem?_eq_getElem hj2
  rw [e3] at e2
  cases e2
  simpa using rw'
theorem eqT_ok (cx : Cok G P C X W n) (I : Inv X pins σ H s) : ∀ (N : Nat) {x y : V} {v u : Value} {a b : D} {k : Bool}, RelV x v → RelV y u → Den G ι H x a → Den G ι H y b → eqT N a b = some k →
    PySem.W.EqTree X.prog X.w s (30 + N) v u k ∧ (x = y → k = true)
  | 0, _, _, _, _, _, _, _, _, _, _, _, h => by cases h
  | N + 1, x, y, v, u, a, b, k, rx, ry, dx, dy, h => by
    unfold eqT at h
    cases e0 : leafQ a b with
    | some k' =>
      rw [e0] at h
      cases h
      obtain ⟨z1, z2⟩ := leafQ_ok cx I rx ry dx dy e0
      exact ⟨.leaf fun A hu => z1 A (by omega), z2⟩
    | none =>
      rw [e0] at h
      simp only at h
      split at h
      · rename_i l r
        cases dx with
        | lst q1 e1 dl =>
        cases dy with
        | lst q2 e2 dr =>
        cases rx
        cases ry
        rename_i ax vx ay vy
        obtain ⟨its, rv, hl, _⟩ := I.list (.of e1)
        obtain ⟨its2, rv2, hl2, _⟩ := I.list (.of e2)
        have len1 : its.toArray.size = l.length := by rw [List.size_toArray, ← rv.length, dl.length]
        have len2 : its2.toArray.size = r.length := by rw [List.size_toArray, ← rv2.length, dr.length]
        cases eb : (l.length != r.length) with
        | true =>
          rw [eb] at h
          cases h
          have hne : ax ≠ ay := fun z => by
            subst z
            rw [e1] at e2
            cases e2
            have := dl.length.symm.trans dr.length
            simp [this] at eb
          refine ⟨.listsLen hne hl.isList hl2.isList (by rw [len1, len2]; exact eb), fun z => absurd (by cases z; rfl) hne⟩
        | false =>
          rw [eb] at h
          obtain ⟨hlen, e, he, hk⟩ := eqTs_e h
          have kids : ∀ j (h1 : j < its.toArray.size) (h2 : j < its2.toArray.size), PySem.W.EqTree X.prog X.w s (30 + N) its.toArray[j] its2.toArray[j] (e j) ∧ (vx[j]? = vy[j]? → e j = true) := fun j h1 h2 => by
            obtain ⟨x1, a1, g1, g2, g3, g4⟩ := dl_get dl rv h1
            obtain ⟨x2, a2, g5, g6, g7, g8⟩ := dl_get dr rv2 h2
            obtain ⟨z1, z2⟩ := eqT_ok cx I N g3 g7 g4 g8 (he j a1 a2 g2 g6)
            exact ⟨z1, fun z => z2 (by rw [g1, g5] at z; cases z; rfl)⟩
          have same : ax = ay → k = true := fun z => by
            subst z
            rw [e1] at e2
            cases e2
            rw [hk, List.all_eq_true]
            intro j hj
            have hj := List.mem_range.mp hj
            exact (kids j (by rw [len1]; exact hj) (by rw [len2, ← hlen]; exact hj)).2 rfl
          by_cases hne : ax = ay
          · have hk2 := same hne
            subst hne
            rw [hk2]
            exact ⟨.same, fun _ => rfl⟩
          · refine ⟨?_, fun z => absurd (by cases z; rfl) hne⟩
            rw [hk, ← len1]
            exact .lists hne hl.isList hl2.isList (by rw [len1, len2, hlen]) fun j h1 h2 => (kids j h1 h2).1
      · rename_i l r
        cases dx with
        | tup q1 dl =>
        cases dy with
        | tup q2 dr =>
        cases rx
        cases ry
        rename_i ax vx ay vy
        have sq1 := q1.sq
        have sq2 := q2.sq
        rw [← cx.k] at sq1 sq2
        obtain ⟨its, rv, hl, _⟩ := I.tuple sq1
        obtain ⟨its2, rv2, hl2, _⟩ := I.tuple sq2
        have len1 : its.toArray.size = l.length := by rw [List.size_toArray, ← rv.length, dl.length]
        have len2 : its2.toArray.size = r.length := by rw [List.size_toArray, ← rv2.length, dr.length]
        cases eb : (l.length != r.length) with
        | true => rw [eb] at h; cases h
        | false =>
          rw [eb] at h
          obtain ⟨hlen, e, he, hk⟩ := eqTs_e h
          have kids : ∀ j (h1 : j < its.toArray.size) (h2 : j < its2.toArray.size), PySem.W.EqTree X.prog X.w s (30 + N) its.toArray[j] its2.toArray[j] (e j) ∧ (vx[j]? = vy[j]? → e j = true) := fun j h1 h2 => by
            obtain ⟨x1, a1, g1, g2, g3, g4⟩ := dl_get dl rv h1
            obtain ⟨x2, a2, g5, g6, g7, g8⟩ := dl_get dr rv2 h2
            obtain ⟨z1, z2⟩ := eqT_ok cx I N g3 g7 g4 g8 (he j a1 a2 g2 g6)
            exact ⟨z1, fun z => z2 (by rw [g1, g5] at z; cases z; rfl)⟩
          have same : ax = ay → k = true := fun z => by
            subst z
            have := I.tuple_inj sq1 sq2
            subst this
            rw [hk, List.all_eq_true]
            intro j hj
            have hj := List.mem_range.mp hj
            exact (kids j (by rw [len1]; exact hj) (by rw [len2, ← hlen]; exact hj)).2 rfl
          by_cases hne : ax = ay
          · have hk2 := same hne
            subst hne
            rw [hk2]
            exact ⟨.same, fun _ => rfl⟩
          · refine ⟨?_, fun z => absurd (by cases z; rfl) hne⟩
            have z := PySem.W.EqTree.tuples (prog := X.prog) (w := X.w) (n := 30 + N) (e := e) hne (show s.heap.IsTuple ax its.toArray from hl) (show s.heap.IsTuple ay its2.toArray from hl2) fun j h1 h2 => (kids j h1 h2).1
            have em : min its.toArray.size its2.toArray.size = l.length := by rw [len1, len2, ← hlen]; simp
            have es : (its.toArray.size == its2.toArray.size) = true := by rw [len1, len2, hlen]; simp
            rw [em, es, Bool.and_true, ← hk] at z
            exact z
      · cases h
        cases dx with
        | dic q1 e1 k1 o1 dl =>
        cases dy with
        | dic q2 e2 k2 o2 dr =>
        cases rx
        cases ry
        rename_i ax vx ay vy
        have n1 : vx = [] := by simpa using k1
        have n2 : vy = [] := by simpa using k2
        subst n1 n2
        by_cases hne : ax = ay
        · subst hne
          exact ⟨.same, fun _ => rfl⟩
        · refine ⟨?_, fun _ => rfl⟩
          obtain ⟨_, sa, va, ka, da⟩ := I.hok _ _ e1
          obtain ⟨_, sb, vb, kb, db⟩ := I.hok _ _ e2
          cases ka
          cases kb
          exact PySem.W.EqTree.dicts (e := fun _ => true) hne sa sb da db (fun k v y hm _ => by cases hm)
      · rename_i kx dxx ky dyy
        cases dx with
        | dic q1 e1 k1 o1 dl =>
        cases dy with
        | dic q2 e2 k2 o2 dr =>
        cases rx
        cases ry
        rename_i ax vx ay vy
        cases eb : (kx == ky) with
        | false => rw [eb] at h; cases h
        | true =>
          rw [eb] at h
          have h : eqT N dxx dyy = some k := h
          have ek : kx = ky := by simpa using eb
          subst ek
          obtain ⟨x1, rfl⟩ : ∃ x1, vx = [(Sum.inr kx, x1)] := by
            cases vx with
            | nil => simp at k1
            | cons p r =>
              cases r with
              | cons _ _ => simp at k1
              | nil =>
                obtain ⟨p1, p2⟩ := p
                have : p1 = Sum.inr kx := by simpa using k1
                exact ⟨p2, by rw [this]⟩
          obtain ⟨y1, rfl⟩ : ∃ y1, vy = [(Sum.inr kx, y1)] := by
            cases vy with
            | nil => simp at k2
            | cons p r =>
              cases r with
              | cons _ _ => simp at k2
              | nil =>
                obtain ⟨p1, p2⟩ := p
                have : p1 = Sum.inr kx := by simpa using k2
                exact ⟨p2, by rw [this]⟩
          have d1 : Den G ι H x1 dxx := by
            cases dl with
            | cons z _ => exact z
          have d2 : Den G ι H y1 dyy := by
            cases dr with
            | cons z _ => exact z
          obtain ⟨_, sa, va, ka, da⟩ := I.hok _ _ e1
          obtain ⟨_, sb, vb, kb, db⟩ := I.hok _ _ e2
          cases ka with
          | cons pa ra =>
          cases ra
          cases kb with
          | cons pb rb =>
          cases rb
          rename_i qa qb
          obtain ⟨qa1, qa2⟩ := qa
          obtain ⟨qb1, qb2⟩ := qb
          obtain ⟨pa1, pa2⟩ := pa
          obtain ⟨pb1, pb2⟩ := pb
          simp only at pa1 pb1 pa2 pb2
          subst pa1 pb1
          obtain ⟨z1, z2⟩ := eqT_ok cx I N pa2 pb2 d1 d2 h
          by_cases hne : ax = ay
          · subst hne
            rw [e1] at e2
            cases e2
            rw [z2 rfl]
            exact ⟨.same, fun _ => rfl⟩
          · refine ⟨?_, fun z => absurd (by cases z; rfl) hne⟩
            have z := PySem.W.EqTree.dicts (prog := X.prog) (w := X.w) (n := 30 + N) (e := fun _ => k) hne sa sb da db (fun k' v' y' hm hv => by
              have e3 : (k', v') = (Sum.inr kx, qa2) := by simpa using hm
              cases e3
              have e4 : some qb2 = some y' := by simpa [valueAt] using hv
              cases e4
              exact z1)
            have e5 : (valueAt [(Sum.inr kx, qb2)] (Sum.inr kx : Key)).isSome = true := by simp [valueAt]
            have z3 : PySem.W.EqTree X.prog X.w s (30 + N + 1) (.ref ax) (.ref ay) k := by simpa [e5] using z
            exact z3
      · cases h
/-- a == b -/
theorem eqT_top (cx : Cok G P C X W n) (I : Inv X pins σ H s) {x y : V} {v u : Value} {a b : D} {k : Bool} (rx : RelV x v) (ry : RelV y u) (dx : Den G ι H x a) (dy : Den G ι H y b) (h : eqT 20 a b = some k) (q : Q (.bl k) H) :
    wpAny (model X.prog X.w) X.A (compareOp .Eq v u) (EP X pins σ Q) X.xe s := by
  have un := cx.room.units
  unfold eqT at h
  cases e0 : leafQ a b with
  | some k' =>
    rw [e0] at h
    cases h
    unfold leafQ at e0
    cases e1 : a.py with
    | none => rw [e1] at e0; cases e0
    | some p =>
      cases e2 : b.py with
      | none => rw [e1, e2] at e0; cases e0
      | some q' =>
        rw [e1, e2] at e0
        simp only at e0
        cases e3 : ((p.plain && q'.plain) && decide (p.depth ≤ 30)) with
        | false => rw [e3] at e0; cases e0
        | true =>
          rw [e3] at e0
          cases e0
          obtain ⟨s1, s2⟩ := Bool.and_eq_true_iff.mp e3
          obtain ⟨t1, t2⟩ := Bool.and_eq_true_iff.mp s1
          have s2 := of_decide_eq_true s2
          obtain ⟨as, r1, _⟩ := dx.reads cx.k cx.good.sys I p v e1 rx
          obtain ⟨bs, r2, _⟩ := dy.reads cx.k cx.good.sys I q' u e2 ry
          exact SeqAt.eq_plain r1 r2 t1 t2 (by
            have := Nat.min_le_left p.depth q'.depth
            omega) ⟨.bl _, H, I, rfl, q⟩
  | none =>
    rw [e0] at h
    simp only at h
    split at h
    · rename_i l r
      cases dx with
      | lst q1 e1 dl =>
      cases dy with
      | lst q2 e2 dr =>
      cases rx
      cases ry
      obtain ⟨its, rv, hl, _⟩ := I.list (.of e1)
      obtain ⟨its2, rv2, hl2, _⟩ := I.list (.of e2)
      have len1 : its.toArray.size = l.length := by rw [List.size_toArray, ← rv.length, dl.length]
      have len2 : its2.toArray.size = r.length := by rw [List.size_toArray, ← rv2.length, dr.length]
      cases eb : (l.length != r.length) with
      | true =>
        rw [eb] at h
        cases h
        exact SeqAt.RcAt.lists_lengths hl.isList hl2.isList (by rw [len1, len2]; exact eb) (by omega) _ _ _ _ ⟨.bl _, H, I, rfl, q⟩
      | false =>
        rw [eb] at h
        obtain ⟨hlen, e, he, hk⟩ := eqTs_e h
        refine PySem.W.eq_listsT (n := 30 + 19) (e := e) hl.isList hl2.isList (by rw [len1, len2, hlen]) (fun j h1 h2 => ?_) (by omega) ⟨.bl _, H, I, by rw [len1, ← hk]; rfl, q⟩
        obtain ⟨x1, a1, g1, g2, g3, g4⟩ := dl_get dl rv h1
        obtain ⟨x2, a2, g5, g6, g7, g8⟩ := dl_get dr rv2 h2
        exact (eqT_ok cx I 19 g3 g7 g4 g8 (he j a1 a2 g2 g6)).1
    · rename_i l r
      cases dx with
      | tup q1 dl =>
      cases dy with
      | tup q2 dr =>
      cases rx
      cases ry
      have sq1 := q1.sq
      have sq2 := q2.sq
      rw [← cx.k] at sq1 sq2
      obtain ⟨its, rv, hl, _⟩ := I.tuple sq1
      obtain ⟨its2, rv2, hl2, _⟩ := I.tuple sq2
      have len1 : its.toArray.size = l.length := by rw [List.size_toArray, ← rv.length, dl.length]
      have len2 : its2.toArray.size = r.length := by rw [List.size_toArray, ← rv2.length, dr.length]
      cases eb : (l.length != r.length) with
      | true => rw [eb] at h; cases h
      | false =>
        rw [eb] at h
        obtain ⟨hlen, e, he, hk⟩ := eqTs_e h
        have em : min its.toArray.size its2.toArray.size = l.length := by rw [len1, len2, ← hlen]; simp
        have es : (its.toArray.size == its2.toArray.size) = true := by rw [len1, len2, hlen]; simp
        refine PySem.W.eq_tuplesT (n := 30 + 19) (e := e) (show s.heap.IsTuple _ its.toArray from hl) (show s.heap.IsTuple _ its2.toArray from hl2) (fun j h1 h2 => ?_) (by omega) ⟨.bl _, H, I, by rw [em, es, Bool.and_true, ← hk]; rfl, q⟩
        obtain ⟨x1, a1, g1, g2, g3, g4⟩ := dl_get dl rv h1
        obtain ⟨x2, a2, g5, g6, g7, g8⟩ := dl_get dr rv2 h2
        exact (eqT_ok cx I 19 g3 g7 g4 g8 (he j a1 a2 g2 g6)).1
    · cases h
      cases dx with
      | dic q1 e1 k1 o1 dl =>
      cases dy with
      | dic q2 e2 k2 o2 dr =>
      cases rx
      cases ry
      rename_i ax vx ay vy
      have n1 : vx = [] := by simpa using k1
      have n2 : vy = [] := by simpa using k2
      subst n1 n2
      obtain ⟨_, sa, va, ka, da⟩ := I.hok _ _ e1
      obtain ⟨_, sb, vb, kb, db⟩ := I.hok _ _ e2
      cases ka
      cases kb
      exact PySem.W.eq_dictsT (n := 0) (e := fun _ => true) sa sb da db (fun k v y hm _ => by cases hm) (by omega) ⟨.bl _, H, I, rfl, q⟩
    · rename_i kx dxx ky dyy
      cases dx with
      | dic q1 e1 k1 o1 dl =>
      cases dy with
      | dic q2 e2 k2 o2 dr =>
      cases rx
      cases ry
      rename_i ax vx ay vy
      cases eb : (kx == ky) with
      | false => rw [eb] at h; cases h
      | true =>
        rw [eb] at h
        have h : eqT 19 dxx dyy = some k := h
        have ek : kx = ky := by simpa using eb
        subst ek
        obtain ⟨x1, rfl⟩ : ∃ x1, vx = [(Sum.inr kx, x1)] := by
          cases vx with
          | nil => simp at k1
          | cons p r =>
            cases r with
            | cons _ _ => simp at k1
            | nil =>
              obtain ⟨p1, p2⟩ := p
              have : p1 = Sum.inr kx := by simpa using k1
              exact ⟨p2, by rw [this]⟩
        obtain ⟨y1, rfl⟩ : ∃ y1, vy = [(Sum.inr kx, y1)] := by
          cases vy with
          | nil => simp at k2
          | cons p r =>
            cases r with
            | cons _ _ => simp at k2
            | nil =>
              obtain ⟨p1, p2⟩ := p
              have : p1 = Sum.inr kx := by simpa using k2
              exact ⟨p2, by rw [this]⟩
        have d1 : Den G ι H x1 dxx := by
          cases dl with
          | cons z _ => exact z
        have d2 : Den G ι H y1 dyy := by
          cases dr with
          | cons z _ => exact z
        obtain ⟨_, sa, va, ka, da⟩ := I.hok _ _ e1
        obtain ⟨_, sb, vb, kb, db⟩ := I.hok _ _ e2
        cases ka with
        | cons pa ra =>
        cases ra
        cases kb with
        | cons pb rb =>
        cases rb
        rename_i qa qb
        obtain ⟨qa1, qa2⟩ := qa
        obtain ⟨qb1, qb2⟩ := qb
        obtain ⟨pa1, pa2⟩ := pa
        obtain ⟨pb1, pb2⟩ := pb
        simp only at pa1 pb1 pa2 pb2
        subst pa1 pb1
        have e5 : (valueAt [(Sum.inr kx, qb2)] (Sum.inr kx : Key)).isSome = true := by simp [valueAt]
        refine PySem.W.eq_dictsT (n := 30 + 19) (e := fun _ => k) sa sb da db (fun k' v' y' hm hv => ?_) (by omega) ⟨.bl k, H, I, by simp [e5]; rfl, q⟩
        have e3 : (k', v') = (Sum.inr kx, qa2) := by simpa using hm
        cases e3
        have e4 : some qb2 = some y' := by simpa [valueAt] using hv
        cases e4
        exact (eqT_ok cx I 19 pa2 pb2 d1 d2 h).1
    · cases h
end
end Tn

set_option Elab.async false
set_option linter.all false
set_option maxRecDepth 100000
namespace Tn
open PySem PySem.Spec PyProof.Rows L2

section
variable {G : Gl} {P : Pg} {C : Tn.Call} {X : Cx} {W : WX} {n : Nat} {pins : List (Addr × Obj)} {σ : L2.St} {H : Hp} {s : Shared} {ι : List Addr} {m : Mu} {Q : VK} {E : XK}

/-! ### unary operators -/
theorem un_ok (cx : Cok G P C X W n) {op : UnaryOp} {x : V} {v : Value} {a : Tn.W} (I : Inv X pins σ H s) (r : MRel G ι H m) (rx : RelV x v) (dx : DenW G ι H x a)
    (h : Post G ι H (unD P C op a m) Q fun c d H' => W c d σ H') : wpAny (model X.prog X.w) X.A (unaryOp op v) (EP X pins σ Q) X.xe s := by
  obtain ⟨n0, n1, n2, n3, n4, n5, n6, n7, n8, n9, n10, _⟩ := cx.good.nms
  have ins : ∀ (c nm : Nat) (ds : List D) (f : Str), a = .d (.ins c ds) → G.nm nm = f → Post G ι H (dund P C c nm [a] m) Q (fun c d H' => W c d σ H') →
      wpAny (model X.prog X.w) X.A (callSpecial? v f) (fun z s' => ∃ y, z = some y ∧ EP X pins σ Q y s') X.xe s := fun c nm ds f ea hn h => by
    subst ea
    unfold dund at h
    cases e4 : P.meth c nm with
    | none => rw [e4] at h; exact h.elim
    | some g =>
      rw [e4] at h
      obtain ⟨k, hk, hm⟩ := Pg.meth_at e4
      obtain ⟨a1, dx1, fs1, vs1, rfl, _, e1, _⟩ := Den.insAt dx
      cases rx
      obtain ⟨_, pb, mt⟩ := (cx.good.cls c k hk).meth nm g hm
      obtain ⟨od1, J1, _⟩ := inst_at I e1
      have mi := mt.at_
      rw [hn] at mi
      refine PySem.W.special_fn (cx.kin I) J1 mi (by have := mt.fn; unfold PySem.W.isFn at this; simpa using this) ?_
      exact wpAny_mono (lo_ok (vs := [.ref a1]) (ws := [.d (.ins c ds)]) cx pb I r (.cons rfl .nil) ⟨dx, trivial⟩ h) (fun z s1 hz => ⟨z, rfl, hz⟩) fun _ _ e => e
  unfold unD at h
  split at h
  · rename_i i
    cases dx
    cases op with
    | USub => exact un_neg pins s σ H _ v Q I rx ⟨i, rfl, Post.retD h r (.int _)⟩
    | _ => exact h.elim
  · rename_i c ds
    cases op with
    | Invert =>
      unfold unaryOp
      refine wpAny_holding (wpAny_bind ?_)
      refine wpAny_mono (ins c nInvert ds _ rfl n1 h) (fun z s1 hz => ?_) fun _ _ e => e
      obtain ⟨y, rfl, hz⟩ := hz
      exact wpAny_pure hz
    | USub =>
      unfold unaryOp
      refine wpAny_holding (wpAny_bind ?_)
      refine wpAny_mono (ins c nNeg ds _ rfl n10 h) (fun z s1 hz => ?_) fun _ _ e => e
      obtain ⟨y, rfl, hz⟩ := hz
      exact wpAny_pure hz
    | _ => exact h.elim
  · exact h.elim

/-! ### comparisons -/
theorem eqR_ty (gp : GoodP G P X.mg) {c : Nat} {k : Tn.Cls} (hc : P.cls[c]? = some k) {d : D} (h : eqR P d = true) : PySem.W.notFirst G.K (G.ca c) (tyD G d) = true := by
  cases d with
  | ins c' l =>
    cases e : P.cls[c']? with
    | none => simp [eqR, e] at h
    | some k' => exact gp.nf c k c' k' hc e
  | exn _ _ => simp [eqR] at h
  | _ => exact gp.nfB c k _ hc (by simp [plainTs])
theorem rel_plain {x : V} {u : Value} {b : Bool} (r : RelV x u) : plainIs u (.bool b) = true := by
  cases x <;> first | (cases r; rfl) | (obtain ⟨t, rfl⟩ := r; rfl)
theorem rel_bl {x : V} {u : Value} {b : Bool} (r : RelV x u) (h : x ≠ .bl b) : u ≠ .bool b := fun z => by
  subst z
  exact h (RelV.inj r (show RelV (.bl b) (.bool b) from rfl))
theorem den_bl {x : V} {d : D} {b : Bool} (h : Den G ι H x d) : (x = .bl b ∧ d = .bl b) ∨ (x ≠ .bl b ∧ d ≠ .bl b) := by
  cases h with
  | bl c =>
    by_cases e : c = b
    · subst e; exact .inl ⟨rfl, rfl⟩
    · exact .inr ⟨fun z => e (by cases z; rfl), fun z => e (by cases z; rfl)⟩
  | _ => exact .inr ⟨nofun, nofun⟩
theorem den_non {x : V} {d : D} (h : Den G ι H x d) : (x = .non ∧ d = .non) ∨ (x ≠ .non ∧ d ≠ .non) := by
  cases h <;> first | exact .inl ⟨rfl, rfl⟩ | exact .inr ⟨nofun, nofun⟩
theorem eqQ_ok (cx : Cok G P C X W n) {op : CmpOp} {x y : V} {v u : Value} {a b : D} {k : Bool} (I : Inv X pins σ H s) (rx : RelV x v) (ry : RelV y u) (dx : Den G ι H x a) (dy : Den G ι H y b) (h : eqQ a b = some k) :
    (Q (.bl k) H → wpAny (model X.prog X.w) X.A (compareOp .Eq v u) (EP X pins σ Q) X.xe s) ∧ (Q (.bl (!k)) H → wpAny (model X.prog X.w) X.A (compareOp .NotEq v u) (EP X pins σ Q) X.xe s) := by
  unfold eqQ at h
  cases e1 : a.py with
  | none => rw [e1] at h; cases h
  | some p =>
    cases e2 : b.py with
    | none => rw [e1, e2] at h; cases h
    | some q =>
      rw [e1, e2] at h
      simp only at h
      cases e3 : (shp p && shp q) with
      | false => rw [e3] at h; cases h
      | true =>
        rw [e3] at h
        cases h
        obtain ⟨s1, s2⟩ := Bool.and_eq_true_iff.mp e3
        obtain ⟨as, r1, _⟩ := dx.reads cx.k cx.good.sys I p v e1 rx
        obtain ⟨bs, r2, _⟩ := dy.reads cx.k cx.good.sys I q u e2 ry
        obtain ⟨t1, d1⟩ := Bool.and_eq_true_iff.mp s1
        obtain ⟨t2, d2⟩ := Bool.and_eq_true_iff.mp s2
        have d1 := of_decide_eq_true d1
        have hu : X.A.units + min p.depth q.depth < cLine := by
          have := cx.room.units
          have := Nat.min_le_left p.depth q.depth
          omega
        exact ⟨fun h => SeqAt.eq_plain r1 r2 t1 t2 hu ⟨.bl _, H, I, rfl, h⟩, fun h => SeqAt.ne_plain r1 r2 t1 t2 hu ⟨.bl _, H, I, rfl, h⟩⟩
theorem eqP_ok (cx : Cok G P C X W n) {op : CmpOp} {x y : V} {v u : Value} {a b : D} {k : Bool} (I : Inv X pins σ H s) (rx : RelV x v) (ry : RelV y u) (dx : Den G ι H x a) (dy : Den G ι H y b) (h : eqP a b = some k) :
    (Q (.bl k) H → wpAny (model X.prog X.w) X.A (compareOp .Eq v u) (EP X pins σ Q) X.xe s) ∧ (Q (.bl (!k)) H → wpAny (model X.prog X.w) X.A (compareOp .NotEq v u) (EP X pins σ Q) X.xe s) := by
  unfold eqP at h
  split at h
  · cases h
    cases dx
    cases dy
    obtain ⟨t, rfl⟩ := rx
    obtain ⟨t', rfl⟩ := ry
    exact ⟨fun q => PyProof.Rows.eq_str ⟨.bl _, H, I, rfl, q⟩, fun q => PyProof.Rows.ne_str ⟨.bl _, H, I, rfl, q⟩⟩
  · rename_i l r
    cases e : (l.length != r.length) with
    | false =>
      rw [e] at h
      exact eqQ_ok (op := op) cx I rx ry dx dy h
    | true =>
      rw [e] at h
      cases h
      cases dx with
      | lst q1 e1 dl =>
        cases dy with
        | lst q2 e2 dr =>
          cases rx
          cases ry
          obtain ⟨its, rv, hl, _⟩ := I.list (.of e1)
          obtain ⟨its2, rv2, hl2, _⟩ := I.list (.of e2)
          have hu : X.A.units < cLine := by
            have := cx.room.units
            omega
          have z : (its.toArray.size != its2.toArray.size) = true := by
            rw [List.size_toArray, List.size_toArray, ← rv.length, ← rv2.length, dl.length, dr.length]
            exact e
          exact ⟨fun q => SeqAt.RcAt.lists_lengths hl.isList hl2.isList z hu _ _ _ _ ⟨.bl _, H, I, rfl, q⟩, fun q => SeqAt.RcNeAt.lists_lengths hl.isList hl2.isList z hu _ _ _ _ ⟨.bl _, H, I, rfl, q⟩⟩
  · exact eqQ_ok (op := op) cx I rx ry dx dy h
theorem inD_ok (cx : Cok G P C X W n) {x y : V} {v u : Value} {a b : D} {k : Bool} (I : Inv X pins σ H s) (rx : RelV x v) (ry : RelV y u) (dx : Den G ι H x a) (dy : Den G ι H y b) (h : inD a b = some k) :
    (Q (.bl k) H → wpAny (model X.prog X.w) X.A (compareOp .In v u) (EP X pins σ Q) X.xe s) ∧ (Q (.bl (!k)) H → wpAny (model X.prog X.w) X.A (compareOp .NotIn v u) (EP X pins σ Q) X.xe s) := by
  have un := cx.room.units
  unfold inD at h
  split at h
  · rename_i z
    split at h
    · rename_i x'
      split at h
      · rename_i c hc
        cases h
        have ex : x' = ⟨#[c]⟩ := by
          apply TL.ext_tl
          exact hc
        subst ex
        cases dx
        cases dy
        exact ⟨fun q => op_in_sign pins s σ H _ _ v u Q I rx ry ⟨c, z, rfl, rfl, q⟩, fun q => op_notIn_sign pins s σ H _ _ v u Q I rx ry ⟨c, z, rfl, rfl, q⟩⟩
      · cases h
    · cases h
  · rename_i l
    unfold inQ at h
    cases e1 : a.py with
    | none => rw [e1] at h; cases h
    | some p =>
      cases e2 : D.pys l with
      | none => rw [e1, e2] at h; cases h
      | some qs =>
        rw [e1, e2] at h
        simp only at h
        cases e3 : (shp p && (PyData.plainAll qs && decide (PyData.depthAll qs ≤ 32))) with
        | false => rw [e3] at h; cases h
        | true =>
          rw [e3] at h
          cases h
          obtain ⟨s1, s2⟩ := Bool.and_eq_true_iff.mp e3
          obtain ⟨t1, d1⟩ := Bool.and_eq_true_iff.mp s1
          obtain ⟨t2, d2⟩ := Bool.and_eq_true_iff.mp s2
          have d2 := of_decide_eq_true d2
          have hu : X.A.units + 1 + min (PyData.depthAll qs) p.depth < cLine := by
            have := Nat.min_le_left (PyData.depthAll qs) p.depth
            omega
          obtain ⟨as, r1, _⟩ := dx.reads cx.k cx.good.sys I p v e1 rx
          obtain ⟨bs, r2, _⟩ := dy.reads cx.k cx.good.sys I (.list qs) u (by simp [D.py, e2]) ry
          exact ⟨fun h => SeqAt.in_list_data r2 r1 t2 t1 hu ⟨.bl _, H, I, rfl, h⟩, fun h => SeqAt.notIn_list_data r2 r1 t2 t1 hu ⟨.bl _, H, I, rfl, h⟩⟩
  · rename_i l
    unfold inQ at h
    cases e1 : a.py with
    | none => rw [e1] at h; cases h
    | some p =>
      cases e2 : D.pys l with
      | none => rw [e1, e2] at h; cases h
      | some qs =>
        rw [e1, e2] at h
        simp only at h
        cases e3 : (shp p && (PyData.plainAll qs && decide (PyData.depthAll qs ≤ 32))) with
        | false => rw [e3] at h; cases h
        | true =>
          rw [e3] at h
          cases h
          obtain ⟨s1, s2⟩ := Bool.and_eq_true_iff.mp e3
          obtain ⟨t1, d1⟩ := Bool.and_eq_true_iff.mp s1
          obtain ⟨t2, d2⟩ := Bool.and_eq_true_iff.mp s2
          have d2 := of_decide_eq_true d2
          have hu : X.A.units + 1 + min (PyData.depthAll qs) p.depth < cLine := by
            have := Nat.min_le_left (PyData.depthAll qs) p.depth
            omega
          obtain ⟨as, r1, _⟩ := dx.reads cx.k cx.good.sys I p v e1 rx
          obtain ⟨bs, r2, _⟩ := dy.reads cx.k cx.good.sys I (.tuple qs) u (by simp [D.py, e2]) ry
          exact ⟨fun h => SeqAt.in_tuple_data r2 r1 t2 t1 hu ⟨.bl _, H, I, rfl, h⟩, fun h => SeqAt.notIn_tuple_data r2 r1 t2 t1 hu ⟨.bl _, H, I, rfl, h⟩⟩
  · cases h
theorem datR_den (r : MRel G ι H m) {x : V} {w : Tn.W} {d : D} (dx : DenW G ι H x w) (h : datR m w = some d) : Den G [] H x d := by
  have ls : ∀ {v : V} {d : D}, Den G ι H v d → Den G [] H v d := Den.less fun _ z => absurd z (by simp)
  cases w with
  | d y => cases h; exact ls dx
  | r i =>
    obtain ⟨a, ha, rfl⟩ := dx
    simp only [datR] at h
    cases em : m[i]? with
    | none => rw [em] at h; cases h
    | some o =>
      rw [em] at h
      cases o with
      | lst l =>
        simp only at h
        cases ed : datOf l with
        | none => rw [ed] at h; cases h
        | some ds =>
          rw [ed] at h
          cases h
          obtain ⟨vs, e, dl⟩ := r.ok i a _ ha em
          exact Den.lst (by simp) e (DenL.less (fun _ z => absurd z (by simp)) (dl.dat ed))
      | _ => cases h
  | lam k l => cases h
theorem cmp_ok (cx : Cok G P C X W n) {op : CmpOp} {x y : V} {v u : Value} {a b : Tn.W} (I : Inv X pins σ H s) (r : MRel G ι H m) (rx : RelV x v) (ry : RelV y u) (dx : DenW G ι H x a) (dy : DenW G ι H y b)
    (h : PostB G ι H (cmpD P C op a b m) (fun k H' => Q (.bl k) H') fun c d H' => W c d σ H') : wpAny (model X.prog X.w) X.A (compareOp op v u) (EP X pins σ Q) X.xe s := by
  have rt : ∀ {k : Bool}, PostB G ι H (.ok k m) (fun k H' => Q (.bl k) H') (fun c d H' => W c d σ H') → Q (.bl k) H := fun h => h _ ι H Ex.refl r rfl
  cases op with
  | Is =>
    simp only [cmpD] at h
    split at h
    · rename_i d
      cases dy
      cases ry
      rcases den_non dx with ⟨rfl, rfl⟩ | ⟨h1, h2⟩
      · exact op_isN pins s σ H _ .non v _ Q I rx rfl ⟨rfl, rt h⟩
      · refine op_isN pins s σ H _ .non v _ Q I rx rfl ⟨rfl, ?_⟩
        rw [decide_eq_false h1]
        cases d <;> first | exact absurd rfl h2 | exact rt h
    · rename_i d c
      cases dy
      cases ry
      rcases den_bl (b := c) dx with ⟨rfl, rfl⟩ | ⟨h1, h2⟩
      · cases rx
        exact wpAny_is_self rfl ⟨.bl true, H, I, rfl, by simpa using rt h⟩
      · refine wpAny_is_other (rel_plain rx) (rel_bl rx h1) ⟨.bl false, H, I, rfl, ?_⟩
        cases d <;> first | exact rt h | skip
        rename_i e
        have e1 : (e == c) = false := by
          cases q : (e == c) with
          | false => rfl
          | true => exact absurd (by rw [beq_iff_eq.mp q]) h2
        have z := rt h
        simp only [e1] at z
        exact z
    · exact h.elim
  | IsNot =>
    simp only [cmpD] at h
    split at h
    · rename_i d
      cases dy
      cases ry
      rcases den_non dx with ⟨rfl, rfl⟩ | ⟨h1, h2⟩
      · exact op_notN pins s σ H _ .non v _ Q I rx rfl ⟨rfl, rt h⟩
      · refine op_notN pins s σ H _ .non v _ Q I rx rfl ⟨rfl, ?_⟩
        rw [decide_eq_false h1]
        cases d <;> first | exact absurd rfl h2 | exact rt h
    · rename_i d c
      cases dy
      cases ry
      rcases den_bl (b := c) dx with ⟨rfl, rfl⟩ | ⟨h1, h2⟩
      · cases rx
        exact wpAny_isNot_self rfl ⟨.bl false, H, I, rfl, by simpa using rt h⟩
      · refine wpAny_isNot_other (rel_plain rx) (rel_bl rx h1) ⟨.bl true, H, I, rfl, ?_⟩
        cases d <;> first | exact rt h | skip
        rename_i e
        have e1 : (e != c) = true := by
          cases q : (e == c) with
          | false => simp [bne, q]
          | true => exact absurd (by rw [beq_iff_eq.mp q]) h2
        have z := rt h
        simp only [e1] at z
        exact z
    · exact h.elim
  | Eq =>
    simp only [cmpD] at h
    split at h
    · rename_i c ds y'
      cases e2 : eqR P y' with
      | false => rw [e2] at h; exact h.elim
      | true =>
        rw [e2] at h
        simp only [cond_true] at h
        unfold dund at h
        cases e4 : P.meth c nEq with
        | none => rw [e4] at h; exact h.elim
        | some g =>
          rw [e4] at h
          have h2 : Post G ι H (C.lo g [.d (.ins c ds), .d y'] m) (fun z H1 => ∃ k, z = .bl k ∧ Q (.bl k) H1) (fun c d H' => W c d σ H') := by
            refine PostG.bind h fun w m1 z ι1 H1 _ _ r1 dz p => ?_
            cases w with
            | d q =>
              cases q with
              | bl k => cases dz; exact ⟨k, rfl, p k ι1 H1 Ex.refl r1 rfl⟩
              | _ => exact p.elim
            | _ => exact p.elim
          obtain ⟨k, hk, hm⟩ := Pg.meth_at e4
          obtain ⟨a1, dx1, fs1, vs1, rfl, _, e1, _⟩ := Den.insAt dx
          cases rx
          obtain ⟨_, pb, mt⟩ := (cx.good.cls c k hk).meth nEq g hm
          obtain ⟨od1, J1, _⟩ := inst_at I e1
          obtain ⟨m0, F⟩ := I.fr
          have mi := mt.at_
          rw [cx.good.nms.1] at mi
          show wpAny (model X.prog X.w) X.A (richCompare .Eq (.ref a1) u) (EP X pins σ Q) X.xe s
          refine PySem.W.cmp_K cx.room.units0 F (by rw [← cx.k]; exact I.ok.mod.kin) J1 (Den.ty cx.k I dy ry) (eqR_ty cx.good hk e2) mi mt.fn ?_
          refine wpAny_mono (lo_ok (vs := [.ref a1, y]) (ws := [.d (.ins c ds), .d y']) cx pb I r (.cons rfl (.cons ry .nil)) ⟨dx, dy, trivial⟩ h2) (fun z s1 hz => back_cmp ?_) fun _ _ e => e
          obtain ⟨w, H1, I1, rr, k, rfl, q⟩ := hz
          exact ⟨.bl k, H1, I1, rr, q⟩
    · rename_i d e _
      unfold eqE at h
      cases e2 : eqP d e with
      | some k =>
        rw [e2] at h
        exact (eqP_ok (op := .Eq) cx I rx ry dx dy e2).1 (rt h)
      | none =>
        rw [e2] at h
        simp only at h
        cases e3 : eqT 20 d e with
        | none => rw [e3] at h; exact h.elim
        | some k =>
          rw [e3] at h
          exact eqT_top cx I rx ry dx dy e3 (rt h)
    · rename_i i y'
      cases e2 : datR m (.r i) with
      | none => rw [e2] at h; exact h.elim
      | some x' =>
        rw [e2] at h
        have h : PostB G ι H (M.opt (eqQ x' y') m) (fun k H' => Q (.bl k) H') (fun c d H' => W c d σ H') := h
        cases e3 : eqQ x' y' with
        | none => rw [e3] at h; exact h.elim
        | some k =>
          rw [e3] at h
          exact (eqQ_ok (op := .Eq) (ι := []) cx I rx ry (datR_den r dx e2) (Den.less (fun _ z => absurd z (by simp)) dy) e3).1 (rt h)
    · exact h.elim
  | NotEq =>
    simp only [cmpD] at h
    split at h
    · rename_i c ds y'
      cases e2 : eqR P y' with
      | false => rw [e2] at h; exact h.elim
      | true =>
        rw [e2] at h
        simp only [cond_true] at h
        unfold dund at h
        cases e4 : P.meth c nEq with
        | none => rw [e4] at h; exact h.elim
        | some g =>
          rw [e4] at h
          have h2 : Post G ι H (C.lo g [.d (.ins c ds), .d y'] m) (fun z H1 => ∃ k, z = .bl k ∧ Q (.bl (!k)) H1) (fun c d H' => W c d σ H') := by
            refine PostG.bind h fun w m1 z ι1 H1 _ _ r1 dz p => ?_
            cases w with
            | d q =>
              cases q with
              | bl k => cases dz; exact ⟨k, rfl, p (!k) ι1 H1 Ex.refl r1 rfl⟩
              | _ => exact p.elim
            | _ => exact p.elim
          obtain ⟨k, hk, hm⟩ := Pg.meth_at e4
          obtain ⟨a1, dx1, fs1, vs1, rfl, _, e1, _⟩ := Den.insAt dx
          cases rx
          obtain ⟨_, pb, mt⟩ := (cx.good.cls c k hk).meth nEq g hm
          obtain ⟨od1, J1, _⟩ := inst_at I e1
          obtain ⟨m0, F⟩ := I.fr
          have mi := mt.at_
          rw [cx.good.nms.1] at mi
          show wpAny (model X.prog X.w) X.A (richCompare .NotEq (.ref a1) u) (EP X pins σ Q) X.xe s
          refine ne_K (by have := cx.room.units; omega) F (by rw [← cx.k]; exact I.ok.mod.kin) J1 (Den.ty cx.k I dy ry) (eqR_ty cx.good hk e2) (cx.good.cls c k hk).hm (cx.good.cls c k hk).ne mi mt.fn ?_
          refine wpAny_mono (lo_in1 (vs := [.ref a1, y]) (ws := [.d (.ins c ds), .d y']) cx pb I r (.cons rfl (.cons ry .nil)) ⟨dx, dy, trivial⟩ h2) (fun z s1 hz => ?_) fun _ _ e => e
          obtain ⟨w, H1, I1, rr, k, rfl, q⟩ := hz
          cases rr
          exact ⟨k, rfl, .bl (!k), H1, I1, rfl, q⟩
    · rename_i d e _
      cases e2 : eqP d e with
      | none => rw [e2] at h; exact h.elim
      | some k =>
        rw [e2] at h
        exact (eqP_ok (op := .Eq) cx I rx ry dx dy e2).2 (rt h)
    · exact h.elim
  | Lt =>
    simp only [cmpD] at h
    split at h
    · rename_i i j; cases dx; cases dy; exact op_lt pins s σ H _ _ v u Q I rx ry ⟨i, j, rfl, rfl, rt h⟩
    · exact h.elim
  | LtE =>
    simp only [cmpD] at h
    split at h
    · rename_i i j; cases dx; cases dy; exact op_le pins s σ H _ _ v u Q I rx ry ⟨i, j, rfl, rfl, rt h⟩
    · exact h.elim
  | Gt =>
    simp only [cmpD] at h
    split at h
    · rename_i i j; cases dx; cases dy; exact op_gt pins s σ H _ _ v u Q I rx ry ⟨i, j, rfl, rfl, rt h⟩
    · exact h.elim
  | GtE =>
    simp only [cmpD] at h
    split at h
    · rename_i i j; cases dx; cases dy; exact op_ge pins s σ H _ _ v u Q I rx ry ⟨i, j, rfl, rfl, rt h⟩
    · exact h.elim
  | In =>
    simp only [cmpD] at h
    split at h
    · rename_i d e
      cases e2 : inD d e with
      | none => rw [e2] at h; exact h.elim
      | some k =>
        rw [e2] at h
        exact (inD_ok cx I rx ry dx dy e2).1 (rt h)
    · exact h.elim
  | NotIn =>
    simp only [cmpD] at h
    split at h
    · rename_i d e
      cases e2 : inD d e with
      | none => rw [e2] at h; exact h.elim
      | some k =>
        rw [e2] at h
        exact (inD_ok cx I rx ry dx dy e2).2 (rt h)
    · exact h.elim

/-! ### truth, repr, small builtins -/
theorem truth_ok (cx : Cok G P C X W n) {x : V} {v : Value} {a : Tn.W} {k : Bool} {Q : Bool → Hp → Prop} (I : Inv X pins σ H s) (rx : RelV x v) (dx : DenW G ι H x a) (h : truth m a = some k) (q : Q k H) : wpAny (model X.prog X.w) X.A (truthy v) (TP X pins σ Q) X.xe s := by
  have sz := strTop_le
  refine tru_ok pins s σ H x v Q I rx ⟨k, ?_, q⟩
  unfold truth at h
  split at h <;> first | (cases h; done) | skip
  · cases dx; cases h; rfl
  · cases dx; cases h; rfl
  · cases dx; cases h; rfl
  · cases dx with
    | str hx => cases h; exact ⟨Nat.le_trans hx.1 sz, rfl⟩
  · rename_i l
    cases dx with
    | tup qq l1 =>
      cases h
      have q1 := qq.sq
      rw [← cx.k] at q1
      refine .inr (.inl ⟨_, q1, ?_⟩)
      cases l1 <;> rfl
  · rename_i l
    cases dx with
    | lst q e l1 =>
      cases h
      refine .inl ⟨_, SqL.of e, ?_⟩
      cases l1 <;> rfl
theorem repr_ok (cx : Cok G P C X W n) {x : V} {v : Value} {a z : D} (I : Inv X pins σ H s) (rx : RelV x v) (dx : Den G ι H x a) (h : reprD a = some z) (q : ∀ t, z = .str t → StrOk t → Q (.str t) H) : wpAny (model X.prog X.w) X.A (call (.builtin "repr") [v]) (EP X pins σ Q) X.xe s := by
  unfold reprD at h
  cases e1 : a.py with
  | none => rw [e1] at h; cases h
  | some p =>
    rw [e1] at h
    simp only at h
    cases e2 : (decide (a.bnd ≤ strTop) && decide (p.depth ≤ 64)) with
    | false => rw [e2] at h; cases h
    | true =>
      rw [e2] at h
      cases h
      obtain ⟨b1, b2⟩ := Bool.and_eq_true_iff.mp e2
      have b1 := of_decide_eq_true b1
      have b2 := of_decide_eq_true b2
      have sh := dx.shows p e1 b1
      have sz := strTop_le
      have un := cx.room.un
      have q2 := q _ rfl ⟨Nat.le_trans sh.len b1, sh.cp⟩
      obtain ⟨as, r1, r2⟩ := dx.reads cx.k cx.good.sys I p v e1 rx
      have len : p.shown.length ≤ sizeLine := Nat.le_trans sh.len (Nat.le_trans b1 sz)
      cases v with
      | ref a => exact repr_of_reads' r1 sh.sh (fun _ => r2) cx.gd (by omega) (fun _ _ z => z) (fun h' u tk k => ⟨.str _, H, I.kept k, ⟨_, rfl⟩, q2⟩) len
      | none => cases r1; exact PySem.P.repr_of_none ⟨.str _, H, I.tok _, ⟨_, rfl⟩, q2⟩
      | bool b => cases r1; exact PySem.P.repr_of_bool ⟨.str _, H, I.tok _, ⟨_, rfl⟩, q2⟩
      | int i t =>
        cases r1
        have z : i.natAbs.log2 < 1920 := of_decide_eq_true (by simpa [PyData.showable] using sh.sh)
        exact PySem.P.repr_of_int z ⟨.str _, H, I.tok _, ⟨_, rfl⟩, q2⟩
      | str x t => cases r1; exact PySem.P.repr_of_str ⟨.str _, H, I.tok _, ⟨_, rfl⟩, q2⟩ len
      | _ => cases r1
end
end Tn

set_option Elab.async false
set_option linter.all false
set_option maxRecDepth 100000
namespace Tn
open PySem PySem.Spec PyProof.Rows L2

section
variable {G : Gl} {P : Pg} {C : Tn.Call} {X : Cx} {W : WX} {n : Nat} {pins : List (Addr × Obj)} {σ : L2.St} {H : Hp} {s : Shared} {ι : List Addr} {m : Mu} {Q : VK} {E : XK}

/-! ### attributes -/
theorem idx_get {f i : Nat} : ∀ {l : List Nat}, idxOf f l = some i → l[i]? = some f
  | [], h => by cases h
  | x :: r, h => by
    unfold idxOf at h
    by_cases e : f = x
    · rw [if_pos e] at h
      cases h
      rw [e]
      rfl
    · rw [if_neg e] at h
      cases q : idxOf f r with
      | none => rw [q] at h; cases h
      | some j =>
        rw [q] at h
        cases h
        simpa using idx_get q
theorem map_get {fs : List (Str × V)} {nm : Nat → Str} : ∀ {l : List Nat} {vs : List V} {i f : Nat}, (l.map nm).map (fun f => fs.lookup f) = vs.map some → l[i]? = some f → ∃ v, vs[i]? = some v ∧ fs.lookup (nm f) = some v
  | [], _, _, _, _, h => by simp at h
  | x :: r, [], _, _, e, _ => by simp at e
  | x :: r, v :: vs, 0, f, e, h => by
    have e1 : fs.lookup (nm x) = some v := by simpa using congrArg List.head? e
    have e2 : x = f := by simpa using h
    subst e2
    exact ⟨v, rfl, e1⟩
  | x :: r, v :: vs, i + 1, f, e, h => by
    have e1 : (r.map nm).map (fun f => fs.lookup f) = vs.map some := by simpa using congrArg List.tail e
    obtain ⟨u, a, b⟩ := map_get (i := i) (f := f) e1 (by simpa using h)
    exact ⟨u, by simpa using a, b⟩
theorem noerr {outer : List PySem.Env} {r : Result} {s' : Shared} {e : Value} (h : CR (L2.CX X.prog X.w) outer X.prog X.w H s Q (fun _ _ _ => False) (.error e) s') : False := by
  obtain ⟨_, _, _, _, _, _, _, _, _, _, _, _, z⟩ := h
  exact z
/-- a property -/
theorem prop_ok (cx : Cok G P C X W n) {a dx : Addr} {f g c : Nat} {k : Tn.Cls} {fs : List (Str × V)} {w : Tn.W} {b : Bool} (hc : P.cls[c]? = some k) (hp : k.props.lookup f = some g) (I : Inv X pins σ H s) (r : MRel G ι H m) (ea : H a = some (.ins (G.ca c) dx fs))
    (dw : DenW G ι H (.ref a) w) (h : Post G ι H (M.calm (C.lo g [w]) m) Q fun c d H' => W c d σ H') : wpAny (model X.prog X.w) X.A (getAttr (.ref a) (G.nm f) b) (EP X pins σ Q) X.xe s := by
  have cg := cx.good.cls c k hc
  obtain ⟨pb, p, hp⟩ := cg.prop f g hp
  unfold M.calm at h
  cases e : C.lo g [w] m with
  | stuck => rw [e] at h; exact h.elim
  | exc _ _ _ => rw [e] at h; exact h.elim
  | ok v m1 =>
    rw [e] at h
    have hl := cx.loL g [w] m (by rw [e]; nofun)
    rcases cx.lo with ⟨j, hj, F⟩ | z
    · have F2 := F g
      rw [← cx.k] at F2
      have c0 := cg.cl
      rw [← cx.k] at c0 hp
      obtain ⟨mA, O, _, _, _, _⟩ := ins_get I.hok ea
      obtain ⟨od, J, _⟩ := O.look
      obtain ⟨rest, hrec⟩ := hp.rec_
      have I1 := I.tok (s.toks + 1)
      have hc : (PySem.W.clsIn X.K (G.ca c)).isSome = true := by
        obtain ⟨cd, hc, _⟩ := PySem.W.any_some c0.hd
        rw [hc]
        rfl
      refine PySem.W.get_bind I.kIn J (PySem.W.plainGet_of (c0.get (G.nm f))).1 (PySem.W.findObj_data hc hp.at_ hp.get hp.tak) (PySem.W.plainGet_of (c0.get (G.nm f))).2 (wpAny_call (PySem.W.prop_get (s := { s with toks := s.toks + 1 }) I.kIn hrec ?_))
      refine codeAny_mono (F2.run X.A.in1 X.stack { s with toks := s.toks + 1 } H ⟨[.ref a], []⟩ [.ref a] [.ref a] Q (fun _ _ _ => False) ((cx.room.mono hj).in1) cx.gd I1.env0.in1 (pb.2 _ [.ref a] (cx.kin I1) hl) (.cons rfl .nil)
        ⟨pb.1, hl, ι, [w], m, r, ⟨dw, trivial⟩, by rw [e]; exact h⟩) fun r s' hq => ?_
      cases r with
      | error er => exact (noerr (r := .error er) hq).elim
      | ok fl =>
        cases fl with
        | ret u =>
          obtain ⟨v, H', I3, rv, q3⟩ := I1.after hq
          show wpAny _ _ (handedOut u) _ _ _
          rw [PySem.W.handedOut_of (handed_of rv)]
          exact wpAny_pure ⟨v, H', I3, rv, q3⟩
        | next => exact False.elim hq
        | brk => exact False.elim hq
        | cont => exact False.elim hq
    · rw [z] at e
      cases e
theorem ins_lookup {fws : List (Nat × Tn.W)} {fs : List (Str × V)} {nm : Nat → Str} : ∀ {vs : List V} {f : Nat} {w : Tn.W}, (fws.map fun q => fs.lookup (nm q.1)) = vs.map some → DenWs G ι H vs (fws.map (·.2)) → fws.lookup f = some w → ∃ v, fs.lookup (nm f) = some v ∧ DenW G ι H v w := by
  induction fws with
  | nil => intro vs f w _ _ h; cases h
  | cons q r ih =>
    intro vs f w e d h
    obtain ⟨k, u⟩ := q
    cases vs with
    | nil => simp at e
    | cons v vs =>
      have e1 : fs.lookup (nm k) = some v := by simpa using congrArg List.head? e
      have e2 : (r.map fun q => fs.lookup (nm q.1)) = vs.map some := by simpa using congrArg List.tail e
      by_cases z : f = k
      · subst z
        have h2 : u = w := by simpa [List.lookup] using h
        subst h2
        exact ⟨v, e1, d.1⟩
      · have h2 : r.lookup f = some w := by
          have z2 : (f == k) = false := by simpa using z
          simpa [List.lookup, z2] using h
        exact ih e2 d.2 h2
theorem attr_ok (cx : Cok G P C X W n) {x : V} {v : Value} {w : Tn.W} {f : Nat} {b : Bool} (I : Inv X pins σ H s) (r : MRel G ι H m) (rx : RelV x v) (dx : DenW G ι H x w) (h : Post G ι H (attr P C w f m) Q fun c d H' => W c d σ H') :
    wpAny (model X.prog X.w) X.A (getAttr v (G.nm f) b) (EP X pins σ Q) X.xe s := by
  unfold attr at h
  cases w with
  | lam k l => exact h.elim
  | d y =>
    cases y with
    | exn c z =>
      simp only at h
      cases hc : (decide (c < P.nx) && f == nValue) with
      | false => rw [hc] at h; exact h.elim
      | true =>
        rw [hc] at h
        obtain ⟨h1, h2⟩ := Bool.and_eq_true_iff.mp hc
        have h2 : f = nValue := by simpa using h2
        subst h2
        have eg := cx.good.exc c (of_decide_eq_true h1)
        have nv := cx.good.nms.2.2.2.2.2.2.2.2.2.2.2
        cases dx with
        | exn n1 n2 e1 e2 dz =>
          rename_i a d vv
          cases rx
          obtain ⟨⟨oe, vs, g1, g2, g3, g4⟩, _, _⟩ := I.hok a _ e1
          obtain ⟨mA, hns, hr⟩ : ∃ mA, s.heap.Ns1 d mA ∧ ∀ f, RelO ((List.lookup f [(("value" : Str), vv)])) (mA f) := I.hok d _ e2
          obtain ⟨od, ho, hl⟩ := lookIn_ns hns
          obtain ⟨u, hu, ru⟩ := RelO.some_of (v := vv) (o := mA "value") (by
            have := hr "value"
            simpa [List.lookup] using this)
          have J : PySem.W.InstAt s.heap a oe (G.xa c) (some od) := ⟨g1, g2, by unfold PySem.W.notCls; rw [g4] <;> rfl, by rw [g3]; exact ho⟩
          have fl := eg.fld
          have no := eg.no
          rw [← cx.k] at fl no
          rw [nv]
          exact HandSPX.exc_get I.kIn J fl.ga fl.gg fl.exC (PySem.W.findObj_own fl.hdC no rfl (by rw [hl, hu])) (handed_of ru) ⟨vv, H, I.tok _, ru, Post.retD h r dz⟩
    | ins c ds =>
      simp only at h
      cases hc : P.cls[c]? with
      | none => rw [hc] at h; exact h.elim
      | some k =>
        rw [hc] at h
        simp only at h
        have cg := cx.good.cls c k hc
        obtain ⟨a, dx1, fs, vs, rfl, ha, e1, e2, e3, dl⟩ := Den.insAt dx
        cases rx
        cases hi : idxOf f k.fields with
        | some i =>
          rw [hi] at h
          simp only at h
          have hf := idx_get hi
          rw [cg.fn] at e2
          obtain ⟨y, ey, el⟩ := map_get e2 hf
          cases hd : ds[i]? with
          | none => rw [hd] at h; exact h.elim
          | some d1 =>
            rw [hd] at h
            obtain ⟨y2, ey2, dy⟩ := dl.get hd
            rw [ey] at ey2
            cases ey2
            have c0 := cg.cl
            have c1 := cg.no f (List.mem_of_getElem? hf)
            rw [← cx.k] at c0 c1
            exact getattr_ok I e1 c0 c1 el fun u s' I' ru => ⟨y, H, I', ru, Post.retD h r dy⟩
        | none =>
          rw [hi] at h
          simp only at h
          cases hp : k.props.lookup f with
          | none => rw [hp] at h; exact h.elim
          | some g =>
            rw [hp] at h
            exact prop_ok cx hc hp I r e1 dx h
    | _ => exact h.elim
  | r i =>
    obtain ⟨a, ha, rfl⟩ := dx
    cases rx
    simp only at h
    cases hm : m[i]? with
    | none => rw [hm] at h; exact h.elim
    | some o =>
      rw [hm] at h
      cases o with
      | ins c fws =>
        obtain ⟨dx1, fs, vs, e1, hl, e2, dl, e3⟩ := r.ok i a _ ha hm
        simp only at h
        cases hc : P.cls[c]? with
        | none => rw [hc] at h; exact h.elim
        | some k =>
          rw [hc] at h
          simp only at h
          have cg := cx.good.cls c k hc
          cases hf : fws.lookup f with
          | some w =>
            rw [hf] at h
            simp only at h
            obtain ⟨y, el, dy⟩ := ins_lookup e2 dl hf
            cases hk : k.fields.contains f with
            | false => rw [hk] at h; exact h.elim
            | true =>
              rw [hk] at h
              have c0 := cg.cl
              have c1 := cg.no f (by simpa using hk)
              rw [← cx.k] at c0 c1
              exact getattr_ok I e1 c0 c1 el fun u s' I' ru => ⟨y, H, I', ru, Post.ret h r dy⟩
          | none =>
            rw [hf] at h
            simp only at h
            cases hp : k.props.lookup f with
            | none => rw [hp] at h; exact h.elim
            | some g =>
              rw [hp] at h
              exact prop_ok cx hc hp I r e1 (w := .r i) ⟨a, ha, rfl⟩ h
      | _ => exact h.elim

/-! ### calls of defs, by a shape -/
theorem fill_ok {vs : List V} {us : List Value} {ws : List Tn.W} (rv : Vals vs us) (dv : DenWs G ι H vs ws) : ∀ {fu : List (Sum Nat Value)} {fl : Fill} {l : List Tn.W}, FillRel G fu fl → fillWith ws fl = some l → ∃ qs, Vals qs (fillU us fu) ∧ DenWs G ι H qs l
  | [], [], l, _, h => by cases h; exact ⟨[], .nil, trivial⟩
  | .inl i :: r, .inl j :: r', l, hr, h => by
    obtain ⟨rfl, hr⟩ := hr
    unfold fillWith at h
    cases e1 : ws[i]? with
    | none => rw [e1] at h; cases h
    | some w =>
      cases e2 : fillWith ws r' with
      | none => rw [e1, e2] at h; cases h
      | some t =>
        rw [e1, e2] at h
        cases h
        obtain ⟨qs, a, b⟩ := fill_ok rv dv hr e2
        obtain ⟨v, ev, d1⟩ := dv.get e1
        obtain ⟨u, eu, ru⟩ := rv.get ev
        refine ⟨v :: qs, .cons ?_ a, d1, b⟩
        show RelV v (us.getD i .none)
        rw [List.getD_eq_getElem?_getD, eu]
        exact ru
  | .inr u :: r, .inr d :: r', l, hr, h => by
    obtain ⟨⟨v, ru, dd⟩, hr⟩ := hr
    unfold fillWith at h
    cases e2 : fillWith ws r' with
    | none => rw [e2] at h; cases h
    | some t =>
      rw [e2] at h
      cases h
      obtain ⟨qs, a, b⟩ := fill_ok rv dv hr e2
      exact ⟨v :: qs, .cons ru a, dd ι H, b⟩
  | [], _ :: _, _, h, _ => h.elim
  | .inl _ :: _, [], _, h, _ => h.elim
  | .inr _ :: _, [], _, h, _ => h.elim
  | .inl _ :: _, .inr _ :: _, _, h, _ => h.elim
  | .inr _ :: _, .inl _ :: _, _, h, _ => h.elim
theorem callF_ok (cx : Cok G P C X W n) {f j : Nat} {ks : List Nat} {fl : Fill} {vs : List V} {us us1 us2 : List Value} {ws l : List Tn.W} (sh : ShpF G f j ks fl) (I : Inv X pins σ H s) (r : MRel G ι H m) (eu : us = us1 ++ us2) (l1 : us1.length = j) (l2 : us2.length = ks.length) (rv : Vals vs us) (dv : DenWs G ι H vs ws)
    (hf : fillWith ws fl = some l) (h : Post G ι H (C.hi f l m) Q fun c d H' => W c d σ H') : wpAny (model X.prog X.w) X.A (call (.ref (G.fa f)) us1 ((ks.map G.nm).zip us2)) (EP X pins σ Q) X.xe s := by
  obtain ⟨il, fu, fr, hb⟩ := sh
  obtain ⟨qs, rq, dq⟩ := fill_ok rv dv fr hf
  have hl := cx.hiL f l m (Post.live h)
  have hv : qs.length = (G.ps f).length := dq.length.trans hl
  have F2 := cx.hi f
  rw [← cx.k] at F2
  refine call_ok F2 cx.room cx.gd cx.tk I (qs := fillU us fu) ?_ rq ⟨il, hv, ι, l, m, r, dq, h⟩
  rw [eu]
  exact hb s us1 us2 (cx.kin I) l1 l2

/-! ### new objects -/
theorem fields_ok {fws : List (Nat × Tn.W)} {fs : List (Str × V)} {vs : List V} (e : (fws.map fun q => fs.lookup (G.nm q.1)) = vs.map some) (d : DenWs G ι H vs (fws.map (·.2))) : ∀ {l : List Nat} {ds : List D}, fieldsOf fws l = some ds → ∃ us, (l.map G.nm).map (fun f => fs.lookup f) = us.map some ∧ DenL G ι H us ds
  | [], _, h => by cases h; exact ⟨[], rfl, .nil⟩
  | f :: r, ds, h => by
    unfold fieldsOf at h
    cases e1 : fws.lookup f with
    | none => rw [e1] at h; cases h
    | some w =>
      cases w with
      | d x =>
        cases e2 : fieldsOf fws r with
        | none => rw [e1, e2] at h; cases h
        | some t =>
          rw [e1, e2] at h
          cases h
          obtain ⟨us, a, b⟩ := fields_ok e d e2
          obtain ⟨v, ev, dv⟩ := ins_lookup e d e1
          exact ⟨v :: us, by simp only [List.map_cons, ev]; rw [a], .cons dv b⟩
      | _ => rw [e1] at h; cases h

/-- a new object that is told of -/
theorem MRel.push (r : MRel G ι H m) {x dx c : Nat} (hx : H x = none) (hd : H dx = none) (ne : dx ≠ x) : MRel G (ι ++ [x]) (upd (upd H dx (.own x)) x (.ins (G.ca c) dx [])) (m ++ [.ins c []]) ∧ Ex ι H (ι ++ [x]) (upd (upd H dx (.own x)) x (.ins (G.ca c) dx [])) := by
  have nx : x ∉ ι := r.fresh hx
  have ex : Ex ι H (ι ++ [x]) (upd (upd H dx (.own x)) x (.ins (G.ca c) dx [])) := by
    refine ⟨List.prefix_append _ _, fun {a o u} e => ?_, fun a o ha e _ => ⟨fun z => ?_, ?_⟩⟩
    · rw [upd_ne (ne_of_none e hx), upd_ne (ne_of_none e hd)]; exact e
    · rcases List.mem_append.mp z with z | z
      · exact ha z
      · exact ne_of_none e hx (List.mem_singleton.mp z)
    · rw [upd_ne (ne_of_none e hx), upd_ne (ne_of_none e hd)]; exact e
  refine ⟨⟨?_, by rw [List.length_append, List.length_append, r.len]; rfl, fun i a o h1 h2 => ?_, r.tb.ext fun b o e => by rw [upd_ne (ne_of_none e hx), upd_ne (ne_of_none e hd)]; exact e⟩, ex⟩
  · exact List.nodup_append.mpr ⟨r.nd, by simp, fun a ha b hb => by rw [List.mem_singleton.mp hb]; exact fun z => nx (z ▸ ha)⟩
  · by_cases hi : i < ι.length
    · rw [List.getElem?_append_left hi] at h1
      rw [List.getElem?_append_left (by rw [← r.len]; exact hi)] at h2
      have q := r.ok i a o h1 h2
      obtain ⟨u, eu⟩ := r.tracked (List.mem_of_getElem? h1)
      exact q.ex ex (by rw [upd_ne (ne_of_none eu hx), upd_ne (ne_of_none eu hd)])
    · have e : i = ι.length := by
        have := (List.getElem?_eq_some_iff.mp h1).1
        rw [List.length_append] at this
        simp at this
        omega
      subst e
      rw [List.getElem?_append_right (Nat.le_refl _)] at h1
      rw [List.getElem?_append_right (by rw [r.len]; exact Nat.le_refl _)] at h2
      have e1 : x = a := by simpa using h1
      have e2 : MO.ins c [] = o := by simpa [r.len] using h2
      subst e1
      subst e2
      exact ⟨dx, [], [], upd_same, ⟨Nat.le_refl _, List.nodup_nil⟩, rfl, trivial, fun f v h => by simp at h⟩
theorem make_guards {A : Around} {C : Addr} {us : List Value} {kw : List (Str × Value)} (h : A.guards = some []) : (A.under (.builtin "type.__call__" ⟨.ref C :: us, kw⟩)).guards = some [] := by
  first | exact h | simpa [Around.under, Code.weight, Code.isCreation, Code.isGuard, Code.isCaller, Code.frames, Code.isFrame, guardIds] using h
theorem mk_ok (cx : Cok G P C X W n) {c j : Nat} {k : Tn.Cls} {ks : List Nat} {fl : Fill} {vs : List V} {us us1 us2 : List Value} {ws l : List Tn.W} (hc : P.cls[c]? = some k) (sh : ShpC G k.init j ks fl) (I : Inv X pins σ H s) (r : MRel G ι H m) (eu : us = us1 ++ us2)
    (l1 : us1.length = j) (l2 : us2.length = ks.length) (rv : Vals vs us) (dv : DenWs G ι H vs ws) (hf : fillWith ws fl = some l) (h : Post G ι H (mkObj P C c l m) Q fun c d H' => W c d σ H') :
    wpAny (model X.prog X.w) X.A (call (.ref (G.ca c)) us1 ((ks.map G.nm).zip us2)) (EP X pins σ Q) X.xe s := by
  have cg := cx.good.cls c k hc
  obtain ⟨il, fu, fr, hb⟩ := sh
  obtain ⟨qs, rq, dq⟩ := fill_ok rv dv fr hf
  unfold mkObj at h
  rw [hc] at h
  simp only at h
  have I2 := Inv.made (C := G.ca c) I
  have hx : H (s.heap.objs.size + 1) = none := I.hok.fresh (Nat.le_succ _)
  have hd : H s.heap.objs.size = none := I.hok.fresh (Nat.le_refl _)
  have ne : s.heap.objs.size ≠ s.heap.objs.size + 1 := Nat.ne_of_lt (Nat.lt_succ_self _)
  obtain ⟨r2, ex2⟩ := r.push (c := c) hx hd ne
  have nx := r.fresh hx
  have lm := r.len
  have live : C.lo k.init (.r m.length :: l) (m ++ [.ins c []]) ≠ .stuck := fun z => by rw [z] at h; exact h
  have hl := cx.loL k.init _ _ live
  have d2 : DenWs G (ι ++ [s.heap.objs.size + 1]) (upd (upd H s.heap.objs.size (.own (s.heap.objs.size + 1))) (s.heap.objs.size + 1) (.ins (G.ca c) s.heap.objs.size [])) (V.ref (s.heap.objs.size + 1) :: qs) (.r m.length :: l) :=
    ⟨⟨s.heap.objs.size + 1, by rw [← lm]; simp, rfl⟩, dq.ex ex2⟩
  have hv : (V.ref (s.heap.objs.size + 1) :: qs).length = (G.ps k.init).length := d2.length.trans hl
  rcases cx.lo with ⟨i, hi, F⟩ | z
  · have F2 := F k.init
    have mk := cg.mkr
    rw [← cx.k] at F2 mk
    have hp : Post G (ι ++ [s.heap.objs.size + 1]) (upd (upd H s.heap.objs.size (.own (s.heap.objs.size + 1))) (s.heap.objs.size + 1) (.ins (G.ca c) s.heap.objs.size [])) (C.lo k.init (.r m.length :: l) (m ++ [.ins c []]))
        (fun v H2 => v = .non ∧ Q (.ref (s.heap.objs.size + 1)) H2) (fun c d H' => W c d σ H') := by
      have tk : ∀ {ι' H'}, Ex (ι ++ [s.heap.objs.size + 1]) (upd (upd H s.heap.objs.size (.own (s.heap.objs.size + 1))) (s.heap.objs.size + 1) (.ins (G.ca c) s.heap.objs.size [])) ι' H' → ι'.take m.length = ι := fun x => by
        rw [← lm]
        exact (ex2.trans x).take
      cases e : C.lo k.init (.r m.length :: l) (m ++ [.ins c []]) with
      | stuck => exact (live e).elim
      | exc xc v m1 =>
        rw [e] at h
        simp only at h
        cases hm2 : cutMu m.length m1 with
        | none => rw [hm2] at h; exact h.elim
        | some m2 =>
          rw [hm2] at h
          intro ι' H' cls dd x1 r1 dx1
          have z := r1.cut hm2
          rw [tk x1] at z
          obtain ⟨e0, d, v, e1, e2, e3, e4⟩ := dx1
          exact h ι H' cls dd (ex2.trans x1).down z ⟨e0, d, v, e1, fun q => e2 ((ex2.trans x1).pre.subset q), e3, Den.less (fun a q => (ex2.trans x1).pre.subset q) e4⟩
      | ok w m1 =>
        rw [e] at h
        intro v ι' H' x1 r1 dw
        cases w with
        | lam _ _ => exact h.elim
        | r _ => exact h.elim
        | d y =>
          cases y with
          | non =>
            cases dw
            refine ⟨rfl, ?_⟩
            simp only at h
            cases hm1 : m1[m.length]? with
            | none => rw [hm1] at h; exact h.elim
            | some o =>
              rw [hm1] at h
              cases o with
              | ins c1 fws =>
                simp only at h
                cases hfo : fieldsOf fws k.fields with
                | none => rw [hfo] at h; exact h.elim
                | some ds =>
                  rw [hfo] at h
                  cases hm2 : cutMu m.length m1 with
                  | none => rw [hm2] at h; exact h.elim
                  | some m2 =>
                    rw [hm2] at h
                    simp only at h
                    cases hb2 : (c1 == c && fws.all (fun q => k.fields.contains q.1)) with
                    | false => rw [hb2] at h; exact h.elim
                    | true =>
                      rw [hb2] at h
                      obtain ⟨b1, b2⟩ := Bool.and_eq_true_iff.mp hb2
                      have b1 : c1 = c := by simpa using b1
                      subst b1
                      have z := r1.cut hm2
                      rw [tk x1] at z
                      have gx : ι'[m.length]? = some (s.heap.objs.size + 1) := x1.get (by rw [← lm]; simp)
                      obtain ⟨dx3, fs3, vs3, g1, g2, g3, g4, g5⟩ := r1.ok _ _ _ gx hm1
                      obtain ⟨us3, f1, f2⟩ := fields_ok g3 g4 hfo
                      refine h _ ι H' (ex2.trans x1).down z (Den.ins nx g1 (vs := us3) ?_ (fun f v hfv => ?_) (DenL.less (fun a q => (ex2.trans x1).pre.subset q) f2))
                      · rw [cg.fn]
                        exact f1
                      · obtain ⟨q, hq, ef⟩ := g5 f v hfv
                        rw [cg.fn, ef]
                        exact List.mem_map_of_mem (by simpa using List.all_eq_true.mp b2 q hq)
              | _ => exact h.elim
          | _ => exact h.elim
    have hu : us1.length = j := l1
    refine wpAny_call (make_map (f := G.fa k.init) I.kIn mk.makes mk.init (beq_iff_eq.mp mk.fn) (codeAny_mono (F2.run _ X.stack _ _ ⟨Value.ref (s.heap.objs.size + 1) :: us1, (ks.map G.nm).zip us2⟩ (Value.ref (s.heap.objs.size + 1) :: fillU us fu) _ _ (fun c d H' => W c d σ H')
      ((cx.room.mono hi).make (G.ca c) us1 _) (make_guards cx.gd) (I2.env0.make (G.ca c) us1 _) ?_ (show Vals (V.ref (s.heap.objs.size + 1) :: qs) _ from .cons rfl rq) ⟨il, hv, _, _, _, r2, d2, hp⟩) fun r s' hq' => ?_))
    · rw [eu]
      exact hb _ _ us1 us2 (cx.kin I2) l1 l2
    · cases r with
      | error e => exact cx.tk e s' (XE.of_call I2 (fun _ _ _ z => z) hq')
      | ok fl =>
        cases fl with
        | ret u =>
          obtain ⟨v, H', I3, rv, ev, q3⟩ := I2.after hq'
          subst ev
          exact ⟨rv, ⟨V.ref (s.heap.objs.size + 1), H', I3, rfl, q3⟩⟩
        | next => exact False.elim hq'
        | brk => exact False.elim hq'
        | cont => exact False.elim hq'
  · exact (live (z _ _ _)).elim
end
end Tn

set_option Elab.async false
set_option linter.all false
set_option maxRecDepth 100000
namespace Tn
open PySem PySem.Spec PyProof.Rows L2
section
variable {prog : Program} {w : World} {A : Around} {E : Value → Shared → Prop} {s : Shared} {l : Addr} {its : List Value} {ns : List Int} {Q : Value → Shared → Prop}
/-- max() of a tuple of ints -/
theorem max_rawT (hh : A.handled = none) (hl : s.heap.IsTuple l its.toArray) (hi : IntsAre its ns) (hne : 0 < ns.length)
    (h : ∀ h' tk M t', (∀ b o, s.heap.get? b = some o → h'.get? b = some o) → M ∈ ns → (∀ a, a ∈ ns → a ≤ M) → Q (.int M t') { s with heap := h', toks := tk }) : wpAny (model prog w) A (call (.builtin "max") [.ref l]) Q E s := by
  obtain ⟨xs, e⟩ := hi.allInts.items
  have hn : numsOf (intItems xs).toList = ns := by rw [← e]; exact hi.numsOf
  rw [nums_intItems] at hn
  subst hn
  rw [e] at hl
  have hsz : 0 < xs.size := by simpa using hne
  refine call_max_walkH (PySem.W.iter_tupleW (A := A.in1) hh hl fun s₂ e2 W st hfp hw hk => ?_)
  refine ⟨_, _, _, _, _, _, _, s.heap, _, rfl, W, st, hfp, by simpa [intItems] using hsz, hw, hk, fun i j vi vj s Q E _ hi hj hQ => CmpOf.ints_gt (numAt xs) (fun _ _ => intItems_at) i j vi vj s Q E hi hj hQ, fun v s' hP m => ?_⟩
  obtain ⟨h', tk, rfl, hk'⟩ := PySem.W.moved_old e2 rfl m
  have e3 : (intItems xs).size = xs.size := by simp [intItems]
  rw [e3] at hP
  obtain ⟨t, rfl⟩ := intItems_at hP
  obtain ⟨h1, h2⟩ := argBest_gt (numAt xs) (xs.size - 1)
  refine h h' tk _ t hk' ?_ fun a ha => ?_
  · rw [numAt_eq]; exact PySem.getD_mem (by rw [List.length_map, Array.length_toList]; omega)
  · obtain ⟨j, hj, rfl⟩ := mem_getD ha
    rw [List.length_map, Array.length_toList] at hj
    rw [← numAt_eq]; exact h2 j (by omega)
end
variable {X : Cx}
def rMaxT (K : PySem.W.Frag) : List V → Hp → VK → Prop := fun vs H Q => ∃ (a : Addr) (ns : List Int), vs = [V.ref a] ∧ SqT K H a (ns.map V.int) ∧ 0 < ns.length ∧ ∀ m, m ∈ ns → (∀ y, y ∈ ns → y ≤ m) → Q (.int m) H
theorem cr_maxT (hc : X.calm = true) : CallR X (.builtin "max") (rMaxT X.K) := by
  intro pins s σ H vs us Q I r h
  obtain ⟨a, ns, rfl, hs, hne, q⟩ := h
  obtain ⟨its, rv, hl, _⟩ := I.tuple hs
  rw [Vals.ref1 r]
  exact max_rawT (I.ok.hd hc) hl rv.ints hne fun h' tk m t' hk h1 h2 => ⟨.int _, H, I.kept hk, ⟨_, rfl⟩, q m h1 h2⟩
end Tn

set_option Elab.async false
set_option linter.all false
set_option maxRecDepth 100000
namespace Tn
open PySem PySem.Spec PyProof.Rows L2

section
variable {G : Gl} {P : Pg} {C : Tn.Call} {X : Cx} {W : WX} {n : Nat} {pins : List (Addr × Obj)} {σ : L2.St} {H : Hp} {s : Shared} {ι : List Addr} {m : Mu} {Q : VK} {E : XK}

/-! ### isinstance -/
def ctX (G : Gl) : Ct → V
  | .int => .ty "int"
  | .bool => .ty "bool"
  | .str => .ty "str"
  | .tup => .ty "tuple"
  | .lst => .ty "list"
  | .dic => .ty "dict"
  | .own c => .ref (G.ca c)
  | .exc c => .ref (G.xa c)
  | .ve => .ty "ValueError"
theorem ct_cls (ct : Ct) : ClsV (ctX G ct) (ctV G ct) := by
  cases ct <;> first | exact .ty _ | exact .own _
theorem Den.tyx (cx : Cok G P C X W n) {v : V} {d : D} {t : String} (h : Den G ι H v d) (e : tyS d = some t) : TyX X.K H v (.type t) ∧ t ∈ plainTs := by
  cases h with
  | non => cases e; exact ⟨.base .non, by simp [plainTs]⟩
  | bl b => cases e; exact ⟨.base (.bl b), by simp [plainTs]⟩
  | int b => cases e; exact ⟨.base (.int b), by simp [plainTs]⟩
  | str b => cases e; exact ⟨.base (.str _), by simp [plainTs]⟩
  | tup q l =>
    cases e
    refine ⟨?_, by simp [plainTs]⟩
    rcases q with ⟨_, q | ⟨o, q⟩⟩ | ⟨o, its, k, e1, e2, _⟩
    · exact .base (.tup q)
    · exact .fTuple q
    · rw [← cx.k] at e1
      exact .kTuple e1 e2
  | lst q e1 l => cases e; exact ⟨.base (.lst e1), by simp [plainTs]⟩
  | scr q => cases e
  | dic q e1 => cases e; exact ⟨.base (.dK e1), by simp [plainTs]⟩
  | ins => cases e
  | exn => cases e
theorem isi_ok (cx : Cok G P C X W n) {x : V} {v : Value} {w : Tn.W} {ct : Ct} {b : Bool} (I : Inv X pins σ H s) (rx : RelV x v) (dx : DenW G ι H x w) (h : isiD P w ct = some b) (q : Q (.bl b) H) :
    wpAny (model X.prog X.w) X.A (call (.builtin "isinstance") [v, ctV G ct]) (EP X pins σ Q) X.xe s := by
  have rc : RelV (ctX G ct) (ctV G ct) := by cases ct <;> rfl
  unfold isiD at h
  cases e : ctOk P ct with
  | false => rw [e] at h; cases h
  | true =>
    rw [e] at h
    simp only [cond_true] at h
    split at h
    · rename_i k l
      cases hc : P.cls[k]? with
      | none => rw [hc] at h; cases h
      | some kk =>
        rw [hc] at h
        cases h
        have cg := cx.good.cls k kk hc
        obtain ⟨a, dx1, fs, vs, rfl, ha, e1, _⟩ := Den.insAt dx
        have ko := cx.good.kitO k kk ct hc e
        have c0 := cg.cl
        have h1 := cg.ha
        have h2 := cg.hn
        have h3 := cg.htk
        have h4 := cg.hm
        rw [← cx.k] at c0 h1 h2 h3 h4 ko
        exact call_isi pins s σ H [.ref a, ctX G ct] _ Q I (.cons rx (.cons rc .nil)) ⟨.ref a, ctX G ct, _, _, _, rfl, ct_cls ct, .base (.ins e1 c0 h1 h2 h3 h4), ko, q⟩
    · rename_i k z
      cases hk : decide (k < P.nx) with
      | false => rw [hk] at h; cases h
      | true =>
        rw [hk] at h
        cases h
        have hk := of_decide_eq_true hk
        cases dx with
        | exn n1 n2 e1 e2 dz =>
          rename_i a d vv
          have ko := cx.good.kitX k ct hk e
          have eg := cx.good.exc k hk
          cases rx
          obtain ⟨⟨oe, vs, g1, g2, g3, g4⟩, _, _⟩ := I.hok a _ e1
          obtain ⟨mA, hns, hr⟩ : ∃ mA, s.heap.Ns1 d mA ∧ ∀ f, RelO ((List.lookup f [(("value" : Str), vv)])) (mA f) := I.hok d _ e2
          obtain ⟨od, ho, hl⟩ := lookIn_ns hns
          have J : PySem.W.InstAt s.heap a oe (G.xa k) (some od) := ⟨g1, g2, by unfold PySem.W.notCls; rw [g4] <;> rfl, by rw [g3]; exact ho⟩
          have fl := eg.fld
          have h1 := eg.ha
          have h2 := eg.hn
          have h3 := eg.htk
          have h4 := eg.hm
          have h5 := eg.ci
          rw [← cx.k] at fl h1 h2 h3 h4 h5 ko
          exact PySem.W.kia_one (PySem.W.kitx_exc (ox := oe) (od := some od) h5 fl.ga fl.gg fl.exC h1 h2 h3 h4) I.kIn J ko (fun z => nomatch z) fun tk => ⟨.bl _, H, I.tok tk, rfl, q⟩
    · rename_i y hne1 hne
      cases e2 : tyS y with
      | none => rw [e2] at h; cases h
      | some t =>
        rw [e2] at h
        cases h
        obtain ⟨ty, mt⟩ := Den.tyx cx dx e2
        have kb := cx.good.kitB t ct mt e
        rw [← cx.k] at kb
        exact call_isi pins s σ H [x, ctX G ct] _ Q I (.cons rx (.cons rc .nil)) ⟨x, ctX G ct, _, _, _, rfl, ct_cls ct, ty, kb, q⟩
    · cases h

/-! ### sequences -/
theorem seq_ok (cx : Cok G P C X W n) (r : MRel G ι H m) {x : V} {w : Tn.W} {l : List Tn.W} (dx : DenW G ι H x w) (h : seqOf m w = some l) : ∃ a vs, x = .ref a ∧ (SqL X.K H a vs ∨ SqT X.K H a vs) ∧ DenWs G ι H vs l := by
  unfold seqOf at h
  split at h
  · cases h
    cases dx with
    | tup q l1 =>
      have q1 := q.sq
      rw [← cx.k] at q1
      exact ⟨_, _, rfl, .inr q1, l1.ws⟩
  · cases h
    cases dx with
    | lst q e l1 => exact ⟨_, _, rfl, .inl (.of e), l1.ws⟩
  · rename_i i
    obtain ⟨a, ha, rfl⟩ := dx
    cases hm : m[i]? with
    | none => rw [hm] at h; cases h
    | some o =>
      rw [hm] at h
      cases o with
      | lst ws =>
        cases h
        obtain ⟨vs, e, d⟩ := r.ok i a _ ha hm
        exact ⟨a, vs, rfl, .inl (.of e), d⟩
      | _ => cases h
  · cases h
theorem scr_sq (cx : Cok G P C X W n) {x : V} {l : List Int} (h : Den G ι H x (.scr l)) : ∃ a, x = .ref a ∧ SqL X.K H a (l.map V.int) := by
  cases h with
  | scr q =>
    have q1 := q.sq
    rw [← cx.k] at q1
    exact ⟨_, rfl, q1⟩
theorem one_ok {c : Nat} (h : c < 16 ^ 8) : StrOk ⟨#[c]⟩ := ⟨by show 1 ≤ strTop; decide, fun x hx => by
  have : x = c := by simpa using hx
  rw [this]
  exact h⟩
theorem cutS_ok {z : Str} (lo hi : Option Int) (h : StrOk z) : StrOk (cutS z lo hi) := ⟨Nat.le_trans (cutS_length z lo hi) h.1, fun c hc => h.2 c (by
  unfold cutS at hc
  exact List.mem_of_mem_drop (List.mem_of_mem_take (by simpa using hc)))⟩
theorem sub_ok (cx : Cok G P C X W n) {va sl : Expr} {x y : V} {v u : Value} {a i w : Tn.W} (I : Inv X pins σ H s) (r : MRel G ι H m) (rx : RelV x v) (ry : RelV y u) (dx : DenW G ι H x a) (dy : DenW G ι H y i) (h : subD a i m = some w) (q : ∀ z, DenW G ι H z w → Q z H)
    (hs : subscripted sl false v u = operate [v, u] (getItem v u)) : wpAny (model X.prog X.w) X.A (subscriptTail va sl v u) (EP X pins σ Q) X.xe s := by
  unfold subD at h
  split at h
  · rename_i k
    cases dy
    split at h
    · rename_i l
      obtain ⟨p, rfl, sq⟩ := scr_sq cx dx
      cases e1 : ix l.length k with
      | none => rw [e1] at h; cases h
      | some j =>
        rw [e1] at h
        have h : (l[j]?).map (fun i => Tn.W.d (.int i)) = some w := h
        cases e2 : l[j]? with
        | none => rw [e2] at h; cases h
        | some z =>
          rw [e2] at h
          cases h
          refine ix_list va sl pins s σ H _ _ v u Q I rx ry ⟨p, l.map V.int, k, .int z, rfl, rfl, sq, ?_, q _ (.int z)⟩ hs
          unfold atI
          rw [List.length_map, show ixN l.length k = some j from e1]
          show (l.map V.int)[j]? = _
          rw [List.getElem?_map, e2]
          rfl
    · rename_i z
      cases dx with
      | str hz =>
        cases e1 : ix z.cps.toList.length k with
        | none => rw [e1] at h; cases h
        | some j =>
          rw [e1] at h
          have h : (z.cps.toList[j]?).map (fun c => Tn.W.d (.str ⟨#[c]⟩)) = some w := h
          cases e2 : z.cps.toList[j]? with
          | none => rw [e2] at h; cases h
          | some c =>
            rw [e2] at h
            cases h
            refine ix_str va sl pins s σ H _ _ v u Q I rx ry ⟨z, k, c, rfl, rfl, Nat.le_trans hz.1 strTop_le, ?_, q _ (Den.str (one_ok (hz.2 c (List.mem_of_getElem? e2))))⟩ hs
            unfold atI
            rw [show ixN z.cps.toList.length k = some j from e1]
            exact e2
    · rename_i hne
      cases e0 : seqOf m a with
      | none => rw [e0] at h; cases h
      | some l =>
        rw [e0] at h
        obtain ⟨p, vs, rfl, sq, dl⟩ := seq_ok cx r dx e0
        have h : (ix l.length k).bind (fun j => l[j]?) = some w := h
        cases e1 : ix l.length k with
        | none => rw [e1] at h; cases h
        | some j =>
          rw [e1] at h
          have h : l[j]? = some w := h
          obtain ⟨z, ez, dz⟩ := dl.get h
          have ea : atI vs k = some z := by
            unfold atI
            rw [dl.length, show ixN l.length k = some j from e1]
            exact ez
          rcases sq with sq | sq
          · exact ix_list va sl pins s σ H _ _ v u Q I rx ry ⟨p, vs, k, z, rfl, rfl, sq, ea, q z dz⟩ hs
          · exact ix_tup va sl pins s σ H _ _ v u Q I rx ry ⟨p, vs, k, z, rfl, rfl, sq, ea, q z dz⟩ hs
  · cases h
theorem cut_den {vs : List V} {ds : List D} (lo hi : Option Int) (d : DenL G ι H vs ds) : DenL G ι H (cutV vs lo hi) (cutL ds lo hi) := by
  unfold cutV cutL
  rw [d.length]
  exact (d.drop _).take _
def SlD (G : Gl) (ι : List Addr) (m : Mu) : V → Option Int → Option Int → Hp → VK → Prop := fun x lo hi H Q => MRel G ι H m ∧ ((∃ l, Den G ι H x (.tup l) ∧ ∀ v H', Ex ι H ι H' → MRel G ι H' m → Den G ι H' v (.tup (cutL l lo hi)) → Q v H') ∨
  (∃ l, Den G ι H x (.lst l) ∧ ∀ v H', Ex ι H ι H' → MRel G ι H' m → Den G ι H' v (.lst (cutL l lo hi)) → Q v H') ∨
  ∃ z, Den G ι H x (.str z) ∧ ∀ v H', Ex ι H ι H' → MRel G ι H' m → Den G ι H' v (.str (cutS z lo hi)) → Q v H')
theorem sl_ok (cx : Cok G P C X W n) : SlR X (SlD G ι m) := by
  intro pins s σ H x v vl vu lo hi sl Q I rx hs pl pu h
  obtain ⟨r, ⟨l, dx, q⟩ | ⟨l, dx, q⟩ | ⟨z, dx, q⟩⟩ := h
  · cases dx with
    | tup qq l1 =>
      rename_i a vs
      have q1 := qq.sq
      rw [← cx.k] at q1
      refine sl_tupA pins s σ H _ v vl vu lo hi sl Q I rx hs pl pu ⟨a, vs, rfl, q1, fun ⟨z1, z2⟩ => ?_, fun _ p hp => ?_⟩
      · refine q _ H Ex.refl r ?_
        have e : cutL l lo hi = l := by
          unfold cutL
          rw [← l1.length, z1, z2, List.drop_zero, l1.length]
          simp
        rw [e]
        exact .tup qq l1
      · exact q _ _ (Ex.new r hp) (r.new hp) (newTup r hp (cut_den lo hi l1))
  · cases dx with
    | lst qq e l1 =>
      rename_i a vs
      exact sl_list pins s σ H _ v vl vu lo hi sl Q I rx hs pl pu ⟨a, vs, rfl, .of e, fun p hp => q _ _ (Ex.new r hp) (r.new hp) (newLst r hp (cut_den lo hi l1))⟩
  · cases dx with
    | str hz => exact sl_str pins s σ H _ v vl vu lo hi sl Q I rx hs pl pu ⟨z, rfl, Nat.le_trans hz.1 strTop_le, q _ H Ex.refl r (.str (cutS_ok lo hi hz))⟩

/-! ### builtins by values -/
def bltV : BF → Value
  | .len => .builtin "len"
  | .abs => .builtin "abs"
  | .int => .type "int"
  | .str => .type "str"
  | .repr => .builtin "repr"
  | .max => .builtin "max"
  | .min => .builtin "min"
  | .all => .builtin "all"
  | .lst => .type "list"
  | .tup => .type "tuple"
  | .lrng => .type "list"
theorem allI_den : ∀ {l : List D} {ns : List Int} {vs : List V}, allI l = some ns → DenL G ι H vs l → vs = ns.map V.int
  | [], ns, _, e, .nil => by cases e; rfl
  | d :: r, ns, _, e, .cons h t => by
    cases d with
    | int i =>
      unfold allI at e
      cases q : allI r with
      | none => rw [q] at e; cases e
      | some k =>
        rw [q] at e
        cases e
        cases h
        rw [allI_den q t]
        rfl
    | _ => cases e
theorem allBs_den : ∀ {l : List D} {ns : List Bool} {vs : List V}, allBs l = some ns → DenL G ι H vs l → vs = ns.map V.bl
  | [], ns, _, e, .nil => by cases e; rfl
  | d :: r, ns, _, e, .cons h t => by
    cases d with
    | bl i =>
      unfold allBs at e
      cases q : allBs r with
      | none => rw [q] at e; cases e
      | some k =>
        rw [q] at e
        cases e
        cases h
        rw [allBs_den q t]
        rfl
    | _ => cases e
theorem maxI_max : ∀ {l : List Int} {m y : Int}, maxI l = some m → y ∈ l → y ≤ m
  | [], _, _, e, _ => by cases e
  | [i], _, _, e, h => by cases e; simp at h; omega
  | i :: j :: r, m, y, e, h => by
    unfold maxI at e
    cases q : maxI (j :: r) with
    | none => rw [q] at e; cases e
    | some k =>
      rw [q] at e
      have e2 : (if k > i then k else i) = m := Option.some.inj e
      have z : ∀ y, y ∈ j :: r → y ≤ k := fun y => maxI_max q
      rcases List.mem_cons.mp h with rfl | h
      · split at e2 <;> omega
      · have := z y h
        split at e2 <;> omega
theorem minI_min : ∀ {l : List Int} {m y : Int}, minI l = some m → y ∈ l → m ≤ y
  | [], _, _, e, _ => by cases e
  | [i], _, _, e, h => by cases e; simp at h; omega
  | i :: j :: r, m, y, e, h => by
    unfold minI at e
    cases q : minI (j :: r) with
    | none => rw [q] at e; cases e
    | some k =>
      rw [q] at e
      have e2 : (if k < i then k else i) = m := Option.some.inj e
      have z : ∀ y, y ∈ j :: r → k ≤ y := fun y => minI_min q
      rcases List.mem_cons.mp h with rfl | h
      · split at e2 <;> omega
      · have := z y h
        split at e2 <;> omega
theorem maxI_mem : ∀ {l : List Int} {m : Int}, maxI l = some m → m ∈ l
  | [], _, e => by cases e
  | [i], _, e => by cases e; simp
  | i :: j :: r, m, e => by
    unfold maxI at e
    cases q : maxI (j :: r) with
    | none => rw [q] at e; cases e
    | some k =>
      rw [q] at e
      have e2 : (if k > i then k else i) = m := Option.some.inj e
      have z := maxI_mem q
      split at e2
      · rw [← e2]; exact List.mem_cons_of_mem _ z
      · rw [← e2]; exact List.mem_cons_self
theorem minI_mem : ∀ {l : List Int} {m : Int}, minI l = some m → m ∈ l
  | [], _, e => by cases e
  | [i], _, e => by cases e; simp
  | i :: j :: r, m, e => by
    unfold minI at e
    cases q : minI (j :: r) with
    | none => rw [q] at e; cases e
    | some k =>
      rw [q] at e
      have e2 : (if k < i then k else i) = m := Option.some.inj e
      have z := minI_mem q
      split at e2
      · rw [← e2]; exact List.mem_cons_of_mem _ z
      · rw [← e2]; exact List.mem_cons_self
theorem int_str_ok {i : Int} (h : Sm i = true) : StrOk (Str.ofString (toString i)) := ⟨Nat.le_trans (intTxt h) (by decide), cp_ofString _⟩
theorem one_of {α : Type} {R : List Addr → Hp → V → Tn.W → Prop} {vs : List V} {us : List Value} {w : Tn.W} (rv : Vals vs us) (dv : DenWs G ι H vs [w]) : ∃ x u, vs = [x] ∧ us = [u] ∧ RelV x u ∧ DenW G ι H x w := by
  cases rv with
  | nil => exact dv.elim
  | cons r t =>
    cases t with
    | nil => exact ⟨_, _, rfl, rfl, r, dv.1⟩
    | cons _ _ => exact dv.2.elim
theorem two_of {vs : List V} {us : List Value} {w w' : Tn.W} (rv : Vals vs us) (dv : DenWs G ι H vs [w, w']) : ∃ x u x' u', vs = [x, x'] ∧ us = [u, u'] ∧ RelV x u ∧ RelV x' u' ∧ DenW G ι H x w ∧ DenW G ι H x' w' := by
  cases rv with
  | nil => exact dv.elim
  | cons r t =>
    cases t with
    | nil => exact dv.2.elim
    | cons r2 t2 =>
      cases t2 with
      | nil => exact ⟨_, _, _, _, rfl, rfl, r, r2, dv.1, dv.2.1⟩
      | cons _ _ => exact dv.2.2.elim
theorem len_ok (cx : Cok G P C X W n) {w z : Tn.W} {x : V} {u : Value} (I : Inv X pins σ H s) (r : MRel G ι H m) (rx : RelV x u) (dx : DenW G ι H x w) (h : (seqOf m w).map (fun l => Tn.W.d (.int l.length)) = some z) (q : ∀ y, DenW G ι H y z → Q y H) :
    wpAny (model X.prog X.w) X.A (call (.builtin "len") [u]) (EP X pins σ Q) X.xe s := by
  cases e : seqOf m w with
  | none => rw [e] at h; cases h
  | some l =>
    rw [e] at h
    cases h
    obtain ⟨a, vs, rfl, sq, dl⟩ := seq_ok cx r dx e
    refine call_len pins s σ H [.ref a] [u] Q I (.cons rx .nil) ⟨.ref a, vs.length, rfl, ?_, ?_⟩
    · exact sq.imp (fun z => ⟨vs, z, rfl⟩) (fun z => ⟨vs, z, rfl⟩)
    · rw [dl.length]
      exact q _ (.int _)
theorem tup_ok (cx : Cok G P C X W n) {w0 w : Tn.W} {x : V} {u : Value} (I : Inv X pins σ H s) (r : MRel G ι H m) (rx : RelV x u) (dx : DenW G ι H x w0) (h : bltD .tup [w0] m = some w) (q : Post G ι H (.ok w m) Q E) :
    wpAny (model X.prog X.w) X.A (call (.type "tuple") [u]) (EP X pins σ Q) X.xe s := by
  have sz := strTop_le
  simp only [bltD] at h
  have lst : ∀ {l : List D} {a : Addr} {vs : List V}, x = .ref a → H a = some (.lst vs) → DenL G ι H vs l → some (Tn.W.d (.tup l)) = some w → wpAny (model X.prog X.w) X.A (call (.type "tuple") [u]) (EP X pins σ Q) X.xe s := fun {l a vs} ex e1 dl ew => by
    subst ex
    cases ew
    exact rl_tuple pins s σ H _ u Q I rx (.inl ⟨a, vs, rfl, .of e1, fun p hp => Post.new q r hp (newTup r hp dl)⟩)
  cases w0 with
  | d y =>
    cases y with
    | lst l =>
      cases dx with
      | lst q1 e1 dl => exact lst rfl e1 dl h
    | tup l =>
      have h : some (Tn.W.d (.tup l)) = some w := h
      cases h
      cases dx with
      | tup q1 dl =>
        have sq := q1.sq
        rw [← cx.k] at sq
        exact rl_tuple pins s σ H _ u Q I rx (.inr ⟨_, _, rfl, sq, q _ ι H Ex.refl r (.tup q1 dl)⟩)
    | _ => cases h
  | r i =>
    obtain ⟨a, ha, rfl⟩ := dx
    cases em : m[i]? with
    | none => simp only [datR, em] at h; cases h
    | some o =>
      cases o with
      | lst l =>
        simp only [datR, em] at h
        cases ed : datOf l with
        | none => rw [ed] at h; cases h
        | some ds =>
          rw [ed] at h
          obtain ⟨vs, e1, dw⟩ := r.ok i a _ ha em
          exact lst rfl e1 (dw.dat ed) h
      | _ => simp only [datR, em] at h; cases h
  | lam _ _ => cases h
theorem blt_ok (cx : Cok G P C X W n) {b : BF} {ws : List Tn.W} {w : Tn.W} {vs : List V} {us : List Value} (hb : b ≠ .lrng) (hb2 : b ≠ .tup) (I : Inv X pins σ H s) (r : MRel G ι H m) (rv : Vals vs us) (dv : DenWs G ι H vs ws) (h : bltD b ws m = some w) (q : ∀ x, DenW G ι H x w → Q x H) :
    wpAny (model X.prog X.w) X.A (call (bltV b) us) (EP X pins σ Q) X.xe s := by
  have sz := strTop_le
  unfold bltD at h
  split at h
  · obtain ⟨x, u, rfl, rfl, rx, dx⟩ := one_of (R := fun _ _ _ _ => True) (α := Unit) rv dv
    cases h
    cases dx with
    | str hx => exact call_len pins s σ H _ _ Q I rv ⟨_, _, rfl, ⟨Nat.le_trans hx.1 sz, rfl⟩, q _ (.int _)⟩
  · obtain ⟨x, u, rfl, rfl, rx, dx⟩ := one_of (R := fun _ _ _ _ => True) (α := Unit) rv dv
    cases h
    obtain ⟨a, rfl, sq⟩ := scr_sq cx dx
    refine call_len pins s σ H _ _ Q I rv ⟨_, _, rfl, .inl ⟨_, sq, rfl⟩, ?_⟩
    rw [List.length_map]
    exact q _ (.int _)
  · obtain ⟨x, u, rfl, rfl, rx, dx⟩ := one_of (R := fun _ _ _ _ => True) (α := Unit) rv dv
    exact len_ok cx I r rx dx h q
  · obtain ⟨x, u, rfl, rfl, rx, dx⟩ := one_of (R := fun _ _ _ _ => True) (α := Unit) rv dv
    cases h
    cases dx
    exact call_abs pins s σ H _ _ Q I rv ⟨_, rfl, q _ (.int _)⟩
  · obtain ⟨x, u, rfl, rfl, rx, dx⟩ := one_of (R := fun _ _ _ _ => True) (α := Unit) rv dv
    cases h
    cases dx
    exact call_int1 pins s σ H _ _ Q I rv (.inl ⟨_, rfl, q _ (.int _)⟩)
  · obtain ⟨x, u, rfl, rfl, rx, dx⟩ := one_of (R := fun _ _ _ _ => True) (α := Unit) rv dv
    rename_i z
    cases e : decide (z.length ≤ 640) with
    | false => rw [e] at h; cases h
    | true =>
      rw [e] at h
      have h : (PySem.intText? z).map (fun i => Tn.W.d (.int i)) = some w := h
      cases e2 : PySem.intText? z with
      | none => rw [e2] at h; cases h
      | some i =>
        rw [e2] at h
        cases h
        cases dx
        exact call_int_str pins s σ H _ _ Q I rv ⟨z, i, rfl, e2, of_decide_eq_true e, q _ (.int _)⟩
  · exact absurd rfl hb2
  · obtain ⟨x, u, rfl, rfl, rx, dx⟩ := one_of (R := fun _ _ _ _ => True) (α := Unit) rv dv
    cases h
    cases dx
    exact call_int1 pins s σ H _ _ Q I rv (.inr ⟨_, rfl, q _ (.int _)⟩)
  · obtain ⟨x, u, rfl, rfl, rx, dx⟩ := one_of (R := fun _ _ _ _ => True) (α := Unit) rv dv
    rename_i i
    cases e : Sm i with
    | false => rw [e] at h; cases h
    | true =>
      rw [e] at h
      cases h
      cases dx
      have := sm_log e
      exact call_str_int pins s σ H _ _ Q I rv ⟨_, rfl, by omega, q _ (Den.str (int_str_ok e))⟩
  · obtain ⟨x, u, rfl, rfl, rx, dx⟩ := one_of (R := fun _ _ _ _ => True) (α := Unit) rv dv
    rename_i y
    cases e : reprD y with
    | none => rw [e] at h; cases h
    | some z =>
      rw [e] at h
      cases h
      exact repr_ok cx I rx dx e fun t et ht => q _ (by rw [et]; exact Den.str ht)
  · obtain ⟨x, u, x', u', rfl, rfl, rx, rx', dx, dx'⟩ := two_of rv dv
    cases h
    cases dx
    cases dx'
    exact call_max2 cx.calm pins s σ H _ _ Q I rv ⟨_, _, rfl, q _ (.int _)⟩
  · obtain ⟨x, u, x', u', rfl, rfl, rx, rx', dx, dx'⟩ := two_of rv dv
    cases h
    cases dx
    cases dx'
    exact call_min2 cx.calm pins s σ H _ _ Q I rv ⟨_, _, rfl, q _ (.int _)⟩
  · obtain ⟨x, u, rfl, rfl, rx, dx⟩ := one_of (R := fun _ _ _ _ => True) (α := Unit) rv dv
    rename_i l
    cases e : allI l with
    | none => rw [e] at h; cases h
    | some ns =>
      rw [e] at h
      have h : (maxI ns).map (fun i => Tn.W.d (.int i)) = some w := h
      cases e2 : maxI ns with
      | none => rw [e2] at h; cases h
      | some k =>
        rw [e2] at h
        cases h
        cases dx with
        | lst q1 e1 dl =>
          have ev := allI_den e dl
          subst ev
          have mm := maxI_mem e2
          refine cr_max cx.calm pins s σ H _ _ Q I rv ⟨_, ns, rfl, .of e1, List.length_pos_of_mem mm, fun m hm hy => ?_⟩
          have a1 := maxI_max e2 hm
          have a2 := hy k mm
          have a3 : m = k := by omega
          rw [a3]
          exact q _ (.int _)
  · obtain ⟨x, u, rfl, rfl, rx, dx⟩ := one_of (R := fun _ _ _ _ => True) (α := Unit) rv dv
    rename_i l
    cases e : allI l with
    | none => rw [e] at h; cases h
    | some ns =>
      rw [e] at h
      have h : (maxI ns).map (fun i => Tn.W.d (.int i)) = some w := h
      cases e2 : maxI ns with
      | none => rw [e2] at h; cases h
      | some k =>
        rw [e2] at h
        cases h
        cases dx with
        | tup q1 dl =>
          have ev := allI_den e dl
          subst ev
          have mm := maxI_mem e2
          refine cr_maxT cx.calm pins s σ H _ _ Q I rv ⟨_, ns, rfl, by rw [cx.k]; exact q1.sq, List.length_pos_of_mem mm, fun m hm hy => ?_⟩
          have a1 := maxI_max e2 hm
          have a2 := hy k mm
          have a3 : m = k := by omega
          rw [a3]
          exact q _ (.int _)
  · obtain ⟨x, u, rfl, rfl, rx, dx⟩ := one_of (R := fun _ _ _ _ => True) (α := Unit) rv dv
    rename_i l
    cases e : allI l with
    | none => rw [e] at h; cases h
    | some ns =>
      rw [e] at h
      have h : (minI ns).map (fun i => Tn.W.d (.int i)) = some w := h
      cases e2 : minI ns with
      | none => rw [e2] at h; cases h
      | some k =>
        rw [e2] at h
        cases h
        cases dx with
        | lst q1 e1 dl =>
          have ev := allI_den e dl
          subst ev
          have mm := minI_mem e2
          refine cr_min cx.calm pins s σ H _ _ Q I rv ⟨_, ns, rfl, .of e1, List.length_pos_of_mem mm, fun m hm hy => ?_⟩
          have a1 := minI_min e2 hm
          have a2 := hy k mm
          have a3 : m = k := by omega
          rw [a3]
          exact q _ (.int _)
  · obtain ⟨x, u, rfl, rfl, rx, dx⟩ := one_of (R := fun _ _ _ _ => True) (α := Unit) rv dv
    rename_i l
    cases e : allBs l with
    | none => rw [e] at h; cases h
    | some bs =>
      rw [e] at h
      cases h
      cases dx with
      | lst q1 e1 dl =>
        have ev := allBs_den e dl
        subst ev
        exact cr_all cx.calm pins s σ H _ _ Q I rv ⟨_, bs, rfl, .of e1, q _ (.bl _)⟩
  · exact absurd rfl hb
  · cases h
end
end Tn

set_option Elab.async false
set_option linter.all false
set_option maxRecDepth 100000
namespace Tn
open PySem PySem.Spec PyProof.Rows L2

section
variable {α β : Type} {R : List Addr → Hp → β → α → Prop} {G : Gl} {P : Pg} {C : Tn.Call} {X : Cx} {W : WX} {n : Nat} {pins : List (Addr × Obj)} {σ : L2.St} {H : Hp} {s : Shared} {ι : List Addr} {m : Mu} {e : Env} {E : XK}
variable {a b c : Expr} {pos : Pos} {fa fb fc : Env → M Tn.W}
/-! ### one behind another -/
theorem bind_assoc {α β γ : Type} (f : M α) (g : α → M β) (h : β → M γ) : (f.bind g).bind h = f.bind fun a => (g a).bind h := by
  funext m
  unfold M.bind
  cases f m <;> rfl
theorem ret_bind {α β : Type} (a : α) (g : α → M β) : (M.ret a).bind g = g a := rfl
theorem tru_bl (k : Bool) : tru (.d (.bl k)) = M.ret k := rfl
theorem goE {g : Tn.W → M α} {Q : β → Hp → Prop} (ha : PE X a (tM G W fa)) (I : Inv X pins σ H s) (r : MRel G ι H m) (er : ERel G ι H σ e) (h : PostG G R ι H ((M.bind (fa e) g) m) Q fun c d H' => W c d σ H') :
    wpAny (model X.prog X.w) X.A (eval a X.env) (fun v s1 => ∃ x w ι1 H1 m1, Inv X pins σ H1 s1 ∧ RelV x v ∧ DenW G ι1 H1 x w ∧ MRel G ι1 H1 m1 ∧ ERel G ι1 H1 σ e ∧ Ex ι H ι1 H1 ∧ PostG G R ι1 H1 (g w m1) Q fun c d H' => W c d σ H') X.xe s := by
  refine thn (ha.run pins s σ H (fun x H1 => ∃ w ι1 m1, DenW G ι1 H1 x w ∧ MRel G ι1 H1 m1 ∧ ERel G ι1 H1 σ e ∧ Ex ι H ι1 H1 ∧ PostG G R ι1 H1 (g w m1) Q fun c d H' => W c d σ H') I ⟨ι, e, m, r, er, ?_⟩) fun v s1 ⟨x, H1, I1, rx, w, ι1, m1, h1⟩ => ⟨x, w, ι1, H1, m1, I1, rx, h1⟩
  exact PostG.bind h fun w m1 x ι1 H1 _ ex r1 dx p => ⟨w, ι1, m1, dx, r1, er.ex ex, ex, p⟩
theorem goT {fa : Env → M Bool} {g : Bool → M α} {Q : β → Hp → Prop} (ha : PT X a (tMB G W fa)) (I : Inv X pins σ H s) (r : MRel G ι H m) (er : ERel G ι H σ e) (h : PostG G R ι H ((M.bind (fa e) g) m) Q fun c d H' => W c d σ H') :
    wpAny (model X.prog X.w) X.A (isTrue a X.env (eval a X.env)) (fun k s1 => ∃ ι1 H1 m1, Inv X pins σ H1 s1 ∧ MRel G ι1 H1 m1 ∧ ERel G ι1 H1 σ e ∧ Ex ι H ι1 H1 ∧ PostG G R ι1 H1 (g k m1) Q fun c d H' => W c d σ H') X.xe s := by
  refine thn (ha.run pins s σ H (fun k H1 => ∃ ι1 m1, MRel G ι1 H1 m1 ∧ ERel G ι1 H1 σ e ∧ Ex ι H ι1 H1 ∧ PostG G R ι1 H1 (g k m1) Q fun c d H' => W c d σ H') I ⟨ι, e, m, r, er, ?_⟩) fun k s1 ⟨H1, I1, ι1, m1, h1⟩ => ⟨ι1, H1, m1, I1, h1⟩
  exact PostG.bind h fun w m1 x ι1 H1 _ ex r1 dx p => ⟨ι1, m1, r1, er.ex ex, ex, by rw [dx]; exact p⟩
theorem goA {es : List Expr} {fa : Env → M (List Tn.W)} {g : List Tn.W → M α} {Q : β → Hp → Prop} (ha : PA X es (tML G W fa)) (p : Pos) (I : Inv X pins σ H s) (r : MRel G ι H m) (er : ERel G ι H σ e) (h : PostG G R ι H ((M.bind (fa e) g) m) Q fun c d H' => W c d σ H') :
    wpAny (model X.prog X.w) X.A (spliced (backTo p (starEach es X.env))) (fun us s1 => ∃ vs ws ι1 H1 m1, Inv X pins σ H1 s1 ∧ Vals vs us ∧ DenWs G ι1 H1 vs ws ∧ MRel G ι1 H1 m1 ∧ ERel G ι1 H1 σ e ∧ Ex ι H ι1 H1 ∧ PostG G R ι1 H1 (g ws m1) Q fun c d H' => W c d σ H') X.xe s := by
  refine thn (ha.run p pins s σ H (fun vs H1 => ∃ ws ι1 m1, DenWs G ι1 H1 vs ws ∧ MRel G ι1 H1 m1 ∧ ERel G ι1 H1 σ e ∧ Ex ι H ι1 H1 ∧ PostG G R ι1 H1 (g ws m1) Q fun c d H' => W c d σ H') I ⟨ι, e, m, r, er, ?_⟩) fun us s1 ⟨vs, H1, I1, rv, ws, ι1, m1, h1⟩ => ⟨vs, ws, ι1, H1, m1, I1, rv, h1⟩
  exact PostG.bind h fun w m1 x ι1 H1 _ ex r1 dx p => ⟨w, ι1, m1, dx, r1, er.ex ex, ex, p⟩
theorem tru_bind {k : Bool → M α} {w : Tn.W} {Q : β → Hp → Prop} (h : PostG G R ι H ((M.bind (tru w) k) m) Q E) : ∃ b, truth m w = some b ∧ PostG G R ι H (k b m) Q E := by
  unfold M.bind tru at h
  cases e : truth m w with
  | none => rw [e] at h; exact h.elim
  | some b => rw [e] at h; exact ⟨b, rfl, h⟩
theorem opt_bind {γ : Type} {o : Option γ} {k : γ → M α} {Q : β → Hp → Prop} (h : PostG G R ι H ((M.bind (M.opt o) k) m) Q E) : ∃ b, o = some b ∧ PostG G R ι H (k b m) Q E := by
  cases o with
  | none => exact h.elim
  | some b => exact ⟨b, rfl, h⟩
theorem opt_post {o : Option Tn.W} {Q : VK} (h : Post G ι H (M.opt o m) Q E) : ∃ w, o = some w ∧ Post G ι H (.ok w m) Q E := by
  cases o with
  | none => exact h.elim
  | some w => exact ⟨w, rfl, h⟩

/-! ### leaves -/
theorem s_var {i : Nat} {x : Str} (hN : X.N[i]? = some x) (hv : Vis X.env.scope x) (hd : (x == ("__debug__" : Str)) = false) (hcd : (x == ("__classdict__" : Str)) = false) : PE X (.Name x pos) (tM G W fun e => M.opt ((e[i]?).bind id)) := by
  refine ⟨fun pins s σ H Q I ⟨ι, e, m, r, er, h⟩ => ?_⟩
  obtain ⟨w, e1, h⟩ := opt_post h
  cases e2 : e[i]? with
  | none => rw [e2] at e1; cases e1
  | some o =>
    rw [e2] at e1
    have e3 : o = some w := e1
    subst e3
    obtain ⟨v, es, dv⟩ := er.2 i w e2
    exact (pe_var hN hv hd hcd).run pins s σ H Q I ⟨v, es, Post.ret h r dv⟩
theorem s_cst {v : V} {d : D} (h0 : PE X a (tC v)) (hd : ∀ ι H, Den G ι H v d) : PE X a (tM G W fun _ => M.ret (.d d)) :=
  ⟨fun pins s σ H Q I ⟨ι, e, m, r, er, h⟩ => h0.run pins s σ H Q I (Post.ret (w := .d d) h r (hd ι H))⟩

/-! ### operators -/
theorem s_bin (cx : Cok G P C X W n) {op : Operator} (ha : PE X a (tM G W fa)) (hb : PE X b (tM G W fb)) : PE X (.BinOp a op b pos) (tM G W fun e => (fa e).bind fun x => (fb e).bind fun y => binD P C op x y) := by
  refine ⟨fun pins s σ H Q I ⟨ι, e, m, r, er, h⟩ => ?_⟩
  refine wpAny_BinOp (thn (goE ha I r er h) fun v s1 ⟨x, w, ι1, H1, m1, I1, rx, dx, r1, er1, ex1, h1⟩ => thn (goE hb I1 r1 er1 h1) fun u s2 ⟨y, w2, ι2, H2, m2, I2, ry, dy, r2, er2, ex2, h2⟩ => ?_)
  exact bin_ok cx I2 r2 rx ry (dx.ex ex2) dy h2
theorem s_un (cx : Cok G P C X W n) {op : UnaryOp} (ha : PE X a (tM G W fa)) : PE X (.UnaryOp op a pos) (tM G W fun e => (fa e).bind fun x => unD P C op x) := by
  refine ⟨fun pins s σ H Q I ⟨ι, e, m, r, er, h⟩ => ?_⟩
  exact UnaryOp_ (thn (goE ha I r er h) fun v s1 ⟨x, w, ι1, H1, m1, I1, rx, dx, r1, er1, ex1, h1⟩ => un_ok cx I1 r1 rx dx h1)
theorem cmp_ret {op : CmpOp} {w w2 : Tn.W} {Q : VK} (h : Post G ι H (((cmpD P C op w w2).bind fun k => M.ret (.d (.bl k))) m) Q E) : PostB G ι H (cmpD P C op w w2 m) (fun k H' => Q (.bl k) H') E :=
  PostG.bind h fun k m1 k' ι1 H1 _ ex r1 ek p => by rw [ek]; exact Post.retD p r1 (.bl _)
theorem cmp_any (cx : Cok G P C X W n) {op : CmpOp} {x y : V} {v u : Value} {w w2 : Tn.W} {g : Bool → M α} {Q : β → Hp → Prop} (I : Inv X pins σ H s) (r : MRel G ι H m) (er : ERel G ι H σ e) (rx : RelV x v) (ry : RelV y u) (dx : DenW G ι H x w) (dy : DenW G ι H y w2)
    (h : PostG G R ι H (((cmpD P C op w w2).bind g) m) Q fun c d H' => W c d σ H') :
    wpAny (model X.prog X.w) X.A (compareOp op v u) (fun z s1 => ∃ k ι1 H1 m1, z = .bool k ∧ Inv X pins σ H1 s1 ∧ MRel G ι1 H1 m1 ∧ ERel G ι1 H1 σ e ∧ Ex ι H ι1 H1 ∧ PostG G R ι1 H1 (g k m1) Q fun c d H' => W c d σ H') X.xe s := by
  refine thn (cmp_ok cx (Q := fun z H1 => ∃ k ι1 m1, z = .bl k ∧ MRel G ι1 H1 m1 ∧ ERel G ι1 H1 σ e ∧ Ex ι H ι1 H1 ∧ PostG G R ι1 H1 (g k m1) Q fun c d H' => W c d σ H') I r rx ry dx dy ?_) fun z s1 ⟨x, H1, I1, rz, k, ι1, m1, ez, h1⟩ => ?_
  · exact PostG.bind h fun k m1 k' ι1 H1 _ ex r1 ek p => ⟨k', ι1, m1, rfl, r1, er.ex ex, ex, by rw [ek]; exact p⟩
  · subst ez
    exact ⟨k, ι1, H1, m1, rz, I1, h1⟩
theorem s_cmp (cx : Cok G P C X W n) {op : CmpOp} (hbm : behindInMarks op b = false) (ha : PE X a (tM G W fa)) (hb : PE X b (tM G W fb)) :
    PE X (.Compare a [op] [b] pos) (tM G W fun e => (fa e).bind fun x => (fb e).bind fun y => (cmpD P C op x y).bind fun k => M.ret (.d (.bl k))) := by
  refine ⟨fun pins s σ H Q I ⟨ι, e, m, r, er, h⟩ => ?_⟩
  refine wpAny_Compare1 (thn (goE ha I r er h) fun v s1 ⟨x, w, ι1, H1, m1, I1, rx, dx, r1, er1, ex1, h1⟩ => thn (goE hb I1 r1 er1 h1) fun u s2 ⟨y, w2, ι2, H2, m2, I2, ry, dy, r2, er2, ex2, h2⟩ => ?_) hbm
  exact cmp_ok cx I2 r2 rx ry (dx.ex ex2) dy (cmp_ret h2)
theorem s_cmpT (cx : Cok G P C X W n) {op : CmpOp} (hbm : behindInMarks op b = false) (ha : PE X a (tM G W fa)) (hb : PE X b (tM G W fb)) :
    PT X (.Compare a [op] [b] pos) (tMB G W fun e => ((fa e).bind fun x => (fb e).bind fun y => (cmpD P C op x y).bind fun k => M.ret (.d (.bl k))).bind tru) := by
  refine ⟨fun pins s σ H Q I ⟨ι, e, m, r, er, h⟩ => ?_⟩
  have h : PostB G ι H ((((fa e).bind fun x => (fb e).bind fun y => (cmpD P C op x y).bind fun k => M.ret (.d (.bl k))).bind tru) m) Q fun c d H' => W c d σ H' := h
  simp only [bind_assoc, ret_bind, tru_bl] at h
  refine wpAny_isTrue_Compare1 (thn (goE ha I r er h) fun v s1 ⟨x, w, ι1, H1, m1, I1, rx, dx, r1, er1, ex1, h1⟩ => thn (goE hb I1 r1 er1 h1) fun u s2 ⟨y, w2, ι2, H2, m2, I2, ry, dy, r2, er2, ex2, h2⟩ => ?_) hbm
  refine thn (cmp_any cx I2 r2 er2 rx ry (dx.ex ex2) dy h2) fun z s3 ⟨k, ι3, H3, m3, ez, I3, r3, er3, ex3, h3⟩ => ?_
  rw [ez]
  exact wpAny_truthy_bool ⟨H3, I3, h3 _ _ _ Ex.refl r3 rfl⟩
theorem s_not (cx : Cok G P C X W n) (ha : PE X a (tM G W fa)) : PE X (.UnaryOp .Not a pos) (tM G W fun e => (fa e).bind fun x => (tru x).bind fun k => M.ret (.d (.bl (!k)))) := by
  refine ⟨fun pins s σ H Q I ⟨ι, e, m, r, er, h⟩ => ?_⟩
  refine UnaryOp_ (thn (goE ha I r er h) fun v s1 ⟨x, w, ι1, H1, m1, I1, rx, dx, r1, er1, ex1, h1⟩ => not_of ?_)
  obtain ⟨k, ek, h1⟩ := tru_bind h1
  exact thn (truth_ok (Q := fun c H' => c = k ∧ H' = H1) cx I1 rx dx ek ⟨rfl, rfl⟩) fun c s2 ⟨H2, I2, ec, eH⟩ => by
    subst ec
    subst eH
    exact ⟨.bl (!c), _, I2, rfl, Post.retD h1 r1 (.bl _)⟩
theorem s_notT (ha : PT X a (tMB G W fun e => (fa e).bind tru)) : PT X (.UnaryOp .Not a pos) (tMB G W fun e => ((fa e).bind fun x => (tru x).bind fun k => M.ret (.d (.bl (!k)))).bind tru) := by
  refine ⟨fun pins s σ H Q I ⟨ι, e, m, r, er, h⟩ => ?_⟩
  refine isTrue_not (ha.run pins s σ H (fun c H1 => Q (!c) H1) I ⟨ι, e, m, r, er, ?_⟩)
  have h : PostB G ι H ((((fa e).bind fun x => (tru x).bind fun k => M.ret (.d (.bl (!k)))).bind tru) m) Q fun c d H' => W c d σ H' := h
  simp only [bind_assoc, ret_bind, tru_bl] at h
  show PostB G ι H (((fa e).bind tru) m) _ _
  rw [← bind_assoc] at h
  exact PostG.bind h fun k m1 k' ι1 H1 _ ex r1 ek p => p _ ι1 H1 Ex.refl r1 (by rw [ek])
/-- any other expression as a test -/
theorem s_test (cx : Cok G P C X W n) (ha : PE X a (tM G W fa)) (he : ∀ whole, isTrue a X.env whole = (do let v ← whole; standAt a.pos; holding [v] (truthy v))) : PT X a (tMB G W fun e => (fa e).bind tru) := by
  refine ⟨fun pins s σ H Q I ⟨ι, e, m, r, er, h⟩ => ?_⟩
  refine isTrue_plain (thn (goE ha I r er h) fun v s1 ⟨x, w, ι1, H1, m1, I1, rx, dx, r1, er1, ex1, h1⟩ => ?_) (he _)
  have h2 : ∃ k, truth m1 w = some k ∧ Q k H1 := by
    have h1 : PostB G ι1 H1 (tru w m1) Q fun c d H' => W c d σ H' := h1
    unfold tru at h1
    cases e2 : truth m1 w with
    | none => rw [e2] at h1; exact h1.elim
    | some k => rw [e2] at h1; exact ⟨k, rfl, h1 k ι1 H1 Ex.refl r1 rfl⟩
  obtain ⟨k, ek, h3⟩ := h2
  exact truth_ok cx I1 rx dx ek h3
theorem s_chn (cx : Cok G P C X W n) {o1 o2 : CmpOp} (hm : lastMarks [o1, o2] [b, c] = false) (ha : PE X a (tM G W fa)) (hb : PE X b (tM G W fb)) (hc : PE X c (tM G W fc)) :
    PE X (.Compare a [o1, o2] [b, c] pos) (tM G W fun e => (fa e).bind fun x => (fb e).bind fun y => (cmpD P C o1 x y).bind fun k => match k with
      | true => (fc e).bind fun z => (cmpD P C o2 y z).bind fun k => M.ret (.d (.bl k))
      | false => M.ret (.d (.bl false))) := by
  refine ⟨fun pins s σ H Q I ⟨ι, e, m, r, er, h⟩ => ?_⟩
  refine Compare_chain (thn (goE ha I r er h) fun v s1 ⟨x, w, ι1, H1, m1, I1, rx, dx, r1, er1, ex1, h1⟩ => chain_link (thn (goE hb I1 r1 er1 h1) fun u s2 ⟨y, w2, ι2, H2, m2, I2, ry, dy, r2, er2, ex2, h2⟩ =>
    thn (cmp_any cx I2 r2 er2 rx ry (dx.ex ex2) dy h2) fun d s3 ⟨k, ι3, H3, m3, ez, I3, r3, er3, ex3, h3⟩ => ?_)) hm
  subst ez
  refine wpAny_truthy_bool ?_
  cases k with
  | false => exact ite_ff ⟨.bl false, H3, I3, rfl, Post.retD h3 r3 (.bl _)⟩
  | true => exact ite_tt (chain_last (thn (goE hc I3 r3 er3 h3) fun q s4 ⟨z, w4, ι4, H4, m4, I4, rz, dz, r4, er4, ex4, h4⟩ => cmp_ok cx I4 r4 ry rz ((dy.ex ex3).ex ex4) dz (cmp_ret h4)))

/-! ### and, or, if else -/
variable {rest : List Expr} {fr : Env → M Tn.W}
theorem s_one {op : BoolOp} (ha : PE X a (tM G W fa)) : PE X (.BoolOp op [a] pos) (tM G W fa) := pe_one ha
theorem s_and (cx : Cok G P C X W n) (ha : PE X a (tM G W fa)) (hr : PE X (.BoolOp .And (b :: rest) pos) (tM G W fr)) :
    PE X (.BoolOp .And (a :: b :: rest) pos) (tM G W fun e => (fa e).bind fun x => (tru x).bind fun k => match k with | true => fr e | false => M.ret x) := by
  refine ⟨fun pins s σ H Q I ⟨ι, e, m, r, er, h⟩ => ?_⟩
  refine BoolOp_and (thn (goE ha I r er h) fun v s1 ⟨x, w, ι1, H1, m1, I1, rx, dx, r1, er1, ex1, h1⟩ => ?_)
  obtain ⟨k, ek, h1⟩ := tru_bind h1
  refine thn (truth_ok (Q := fun c H' => c = k ∧ H' = H1) cx I1 rx dx ek ⟨rfl, rfl⟩) fun c s2 ⟨H2, I2, ec, eH⟩ => ?_
  subst ec
  subst eH
  cases c with
  | true => exact ite_tt (hr.run pins s2 σ _ Q I2 ⟨ι1, e, m1, r1, er1, h1⟩)
  | false => exact ite_ff ⟨x, _, I2, rx, Post.ret h1 r1 dx⟩
theorem s_or (cx : Cok G P C X W n) (ha : PE X a (tM G W fa)) (hr : PE X (.BoolOp .Or (b :: rest) pos) (tM G W fr)) :
    PE X (.BoolOp .Or (a :: b :: rest) pos) (tM G W fun e => (fa e).bind fun x => (tru x).bind fun k => match k with | true => M.ret x | false => fr e) := by
  refine ⟨fun pins s σ H Q I ⟨ι, e, m, r, er, h⟩ => ?_⟩
  refine BoolOp_or (thn (goE ha I r er h) fun v s1 ⟨x, w, ι1, H1, m1, I1, rx, dx, r1, er1, ex1, h1⟩ => ?_)
  obtain ⟨k, ek, h1⟩ := tru_bind h1
  refine thn (truth_ok (Q := fun c H' => c = k ∧ H' = H1) cx I1 rx dx ek ⟨rfl, rfl⟩) fun c s2 ⟨H2, I2, ec, eH⟩ => ?_
  subst ec
  subst eH
  cases c with
  | true => exact ite_tt ⟨x, _, I2, rx, Post.ret h1 r1 dx⟩
  | false => exact ite_ff (hr.run pins s2 σ _ Q I2 ⟨ι1, e, m1, r1, er1, h1⟩)
/-- a test, whatever its whole -/
theorem w_one_and (ha : PT X a (tMB G W fun e => (fa e).bind tru)) : PW X (.BoolOp .And [a] pos) (tMB G W fun e => (fa e).bind tru) := pw_and1 ha
theorem w_one_or (ha : PT X a (tMB G W fun e => (fa e).bind tru)) : PW X (.BoolOp .Or [a] pos) (tMB G W fun e => (fa e).bind tru) := pw_or1 ha
theorem tru_split {g : Tn.W → Bool → M Bool} {Q : Bool → Hp → Prop} (h : PostB G ι H (((fa e).bind fun x => (tru x).bind (g x)) m) Q E) : ∀ g' : Bool → M Bool, (∀ m x k, truth m x = some k → g x k m = g' k m) → PostB G ι H ((((fa e).bind tru).bind g') m) Q E := by
  intro g' hg
  unfold M.bind at h ⊢
  cases e1 : fa e m with
  | stuck => rw [e1] at h; exact h
  | exc _ _ _ => rw [e1] at h; exact h
  | ok x m1 =>
    rw [e1] at h
    simp only at h ⊢
    unfold tru at h ⊢
    cases e2 : truth m1 x with
    | none => rw [e2] at h; exact h.elim
    | some k =>
      rw [e2] at h
      have h2 : PostB G ι H (g x k m1) Q E := h
      rw [hg m1 x k e2] at h2
      exact h2
theorem w_and (ha : PT X a (tMB G W fun e => (fa e).bind tru)) (hr : PW X (.BoolOp .And (b :: rest) pos) (tMB G W fun e => (fr e).bind tru)) :
    PW X (.BoolOp .And (a :: b :: rest) pos) (tMB G W fun e => ((fa e).bind fun x => (tru x).bind fun k => match k with | true => fr e | false => M.ret x).bind tru) := by
  refine ⟨fun wh pins s σ H Q I ⟨ι, e, m, r, er, h⟩ => ?_⟩
  have h : PostB G ι H ((((fa e).bind fun x => (tru x).bind fun k => match k with | true => fr e | false => M.ret x).bind tru) m) Q fun c d H' => W c d σ H' := h
  simp only [bind_assoc] at h
  have h2 := tru_split h (fun k => match k with | true => (fr e).bind tru | false => M.ret false) fun m x k ek => by
    cases k with
    | true => rfl
    | false =>
      show tru x m = .ok false m
      unfold tru
      rw [ek]
      rfl
  refine isTrue_and (thn (goT (fa := fun e => (fa e).bind tru) ha I r er h2) fun c s1 ⟨ι1, H1, m1, I1, r1, er1, ex1, h1⟩ => ?_)
  cases c with
  | true => exact hr.run wh pins s1 σ H1 Q I1 ⟨ι1, e, m1, r1, er1, h1⟩
  | false => exact ⟨H1, I1, h1 _ _ _ Ex.refl r1 rfl⟩
theorem w_or (ha : PT X a (tMB G W fun e => (fa e).bind tru)) (hr : PW X (.BoolOp .Or (b :: rest) pos) (tMB G W fun e => (fr e).bind tru)) :
    PW X (.BoolOp .Or (a :: b :: rest) pos) (tMB G W fun e => ((fa e).bind fun x => (tru x).bind fun k => match k with | true => M.ret x | false => fr e).bind tru) := by
  refine ⟨fun wh pins s σ H Q I ⟨ι, e, m, r, er, h⟩ => ?_⟩
  have h : PostB G ι H ((((fa e).bind fun x => (tru x).bind fun k => match k with | true => M.ret x | false => fr e).bind tru) m) Q fun c d H' => W c d σ H' := h
  simp only [bind_assoc] at h
  have h2 := tru_split h (fun k => match k with | true => M.ret true | false => (fr e).bind tru) fun m x k ek => by
    cases k with
    | false => rfl
    | true =>
      show tru x m = .ok true m
      unfold tru
      rw [ek]
      rfl
  refine isTrue_or (thn (goT (fa := fun e => (fa e).bind tru) ha I r er h2) fun c s1 ⟨ι1, H1, m1, I1, r1, er1, ex1, h1⟩ => ?_)
  cases c with
  | false => exact hr.run wh pins s1 σ H1 Q I1 ⟨ι1, e, m1, r1, er1, h1⟩
  | true => exact ⟨H1, I1, h1 _ _ _ Ex.refl r1 rfl⟩
theorem s_ite (hc : PT X c (tMB G W fun e => (fc e).bind tru)) (ha : PE X a (tM G W fa)) (hb : PE X b (tM G W fb)) :
    PE X (.IfExp c a b pos) (tM G W fun e => (fc e).bind fun x => (tru x).bind fun k => match k with | true => fa e | false => fb e) := by
  refine ⟨fun pins s σ H Q I ⟨ι, e, m, r, er, h⟩ => ?_⟩
  have h : Post G ι H (((fc e).bind fun x => (tru x).bind fun k => match k with | true => fa e | false => fb e) m) Q fun c d H' => W c d σ H' := h
  rw [← bind_assoc] at h
  refine wpAny_IfExp (thn (goT (fa := fun e => (fc e).bind tru) hc I r er h) fun d s1 ⟨ι1, H1, m1, I1, r1, er1, ex1, h1⟩ => ?_)
  cases d with
  | true => exact ite_tt (ha.run pins s1 σ H1 Q I1 ⟨ι1, e, m1, r1, er1, h1⟩)
  | false => exact ite_ff (hb.run pins s1 σ H1 Q I1 ⟨ι1, e, m1, r1, er1, h1⟩)

/-! ### displays, attributes, subscripts, slices -/
theorem a_nil : PA X [] (tML G W fun _ => M.ret []) := ⟨fun p pins s σ H Q I ⟨ι, e, m, r, er, h⟩ => Calls.spliced_nil ⟨[], H, I, .nil, h [] ι H Ex.refl r trivial⟩⟩
theorem a_cons {es : List Expr} {fl : Env → M (List Tn.W)} (ha : PE X a (tM G W fa)) (hr : PA X es (tML G W fl)) (hs : starEach (a :: es) X.env = (false, eval a X.env) :: starEach es X.env) : PA X (a :: es) (tML G W fun e => (fa e).bind fun x => (fl e).bind fun xs => M.ret (x :: xs)) := by
  refine ⟨fun p pins s σ H Q I ⟨ι, e, m, r, er, h⟩ => ?_⟩
  rw [hs]
  show wpAny _ _ (spliced ((false, eval a X.env) :: backTo p (starEach es X.env))) _ _ s
  refine Calls.spliced_cons (thn (goE ha I r er h) fun u s1 ⟨x, w, ι1, H1, m1, I1, rx, dx, r1, er1, ex1, h1⟩ => ?_)
  exact thn (goA hr p I1 r1 er1 h1) fun us s2 ⟨vs, ws, ι2, H2, m2, I2, rv, dv, r2, er2, ex2, h2⟩ => ⟨x :: vs, H2, I2, .cons rx rv, h2 (x :: vs) ι2 H2 Ex.refl r2 ⟨dx.ex ex2, dv⟩⟩
theorem disp {fl : Env → M (List Tn.W)} {es : List Expr} {g : List D → D} {Q : VK} {o : List V → HO} (hl : es.length ≤ strTop) (hn : ∀ e m ws m1, fl e m = .ok ws m1 → ws.length = es.length)
    (hd : ∀ {ι : List Addr} {H : Hp} {m : Mu} {vs : List V} {ds : List D} {p : Addr}, MRel G ι H m → H p = none → DenL G ι H vs ds → Den G ι (upd H p (o vs)) (.ref p) (g ds)) (r : MRel G ι H m) (er : ERel G ι H σ e)
    (h : Post G ι H (((fl e).bind fun ws => (M.opt (datOf ws)).bind fun ds => M.ret (.d (g ds))) m) Q fun c d H' => W c d σ H') : tML G W fl σ H fun xs H1 => xs.length ≤ sizeLine ∧ ∀ p, H1 p = none → Q (.ref p) (upd H1 p (o xs)) := by
  refine ⟨ι, e, m, r, er, ?_⟩
  refine PostG.bind h fun ws m1 vs ι1 H1 e1 ex r1 dv p => ?_
  obtain ⟨ds, ed, p⟩ := opt_bind p
  have dl := dv.dat ed
  have sz := strTop_le
  refine ⟨by rw [dv.length, hn e m ws m1 e1]; omega, fun q hq => ?_⟩
  exact Post.new p r1 hq (hd r1 hq dl)
theorem s_tup {es : List Expr} {k : Nat} {fl : Env → M (List Tn.W)} (hl : es.length ≤ strTop) (ha : PA X es (tML G W fl)) (hn : ∀ e m ws m1, fl e m = .ok ws m1 → ws.length = es.length) :
    PE X (.Tuple es k pos) (tM G W fun e => (fl e).bind fun ws => (M.opt (datOf ws)).bind fun ds => M.ret (.d (.tup ds))) :=
  ⟨fun pins s σ H Q I ⟨ι, e, m, r, er, h⟩ => (pe_tup ha).run pins s σ H Q I (disp hl hn newTup r er h)⟩
theorem s_lst {es : List Expr} {fl : Env → M (List Tn.W)} (hl : es.length ≤ strTop) (ha : PA X es (tML G W fl)) (hn : ∀ e m ws m1, fl e m = .ok ws m1 → ws.length = es.length) :
    PE X (.List es pos) (tM G W fun e => (fl e).bind fun ws => (M.opt (datOf ws)).bind fun ds => M.ret (.d (.lst ds))) :=
  ⟨fun pins s σ H Q I ⟨ι, e, m, r, er, h⟩ => (pe_lst ha).run pins s σ H Q I (disp hl hn newLst r er h)⟩
theorem s_atr (cx : Cok G P C X W n) {f : Nat} (hb : attributeBase a (G.nm f) X.env (eval a X.env) = eval a X.env) (ha : PE X a (tM G W fa)) : PE X (.Attribute a (G.nm f) pos) (tM G W fun e => (fa e).bind fun x => attr P C x f) := by
  refine ⟨fun pins s σ H Q I ⟨ι, e, m, r, er, h⟩ => ?_⟩
  exact attr_of hb (thn (goE ha I r er h) fun v s1 ⟨x, w, ι1, H1, m1, I1, rx, dx, r1, er1, ex1, h1⟩ => attr_ok cx I1 r1 rx dx h1)
theorem s_sub (cx : Cok G P C X W n) (hs : PlainIx b) (ha : PE X a (tM G W fa)) (hb : PE X b (tM G W fb)) : PE X (.Subscript a b pos) (tM G W fun e => (fa e).bind fun x => (fb e).bind fun y => fun m => (M.opt (subD x y m)) m) := by
  refine ⟨fun pins s σ H Q I ⟨ι, e, m, r, er, h⟩ => ?_⟩
  refine Subscript_ (thn (goE ha I r er h) fun v s1 ⟨x, w, ι1, H1, m1, I1, rx, dx, r1, er1, ex1, h1⟩ => thn (goE hb I1 r1 er1 h1) fun u s2 ⟨y, w2, ι2, H2, m2, I2, ry, dy, r2, er2, ex2, h2⟩ => ?_)
  obtain ⟨z, ez, h3⟩ := opt_post h2
  exact sub_ok cx I2 r2 rx ry (dx.ex ex2) dy ez (fun q dq => Post.ret h3 r2 dq) (hs _ _)
end
end Tn

set_option Elab.async false
set_option linter.all false
set_option maxRecDepth 100000
namespace Tn
open PySem PySem.Spec PyProof.Rows L2

section
variable {α β : Type} {R : List Addr → Hp → β → α → Prop} {G : Gl} {P : Pg} {C : Tn.Call} {X : Cx} {W : WX} {n : Nat} {pins : List (Addr × Obj)} {σ : L2.St} {H : Hp} {s : Shared} {ι : List Addr} {m : Mu} {e : Env} {E : XK}
variable {a b c : Expr} {pos p p2 apos : Pos} {fa fb fc : Env → M Tn.W} {es : List Expr} {fl fk : Env → M (List Tn.W)}
/-! ### slices -/
def tMP (G : Gl) (W : WX) (f : Env → M (Option Int)) : TO := fun σ H Q => ∃ ι e m, MRel G ι H m ∧ ERel G ι H σ e ∧ PostG G (fun _ _ v w => v = w) ι H (f e m) Q fun c d H' => W c d σ H'
theorem o_no : PO X none (tMP G W fun _ => (M.ret none).bind fun y => M.opt (optI y)) :=
  ⟨fun pins s σ H Q I ⟨ι, e, m, r, er, h⟩ => po_none.run pins s σ H Q I (h none ι H Ex.refl r rfl)⟩
theorem o_yes (ha : PE X a (tM G W fa)) : PO X (some a) (tMP G W fun e => ((fa e).bind fun x => M.ret (some x)).bind fun y => M.opt (optI y)) := by
  refine ⟨fun pins s σ H Q I ⟨ι, e, m, r, er, h⟩ => ?_⟩
  have h : PostG G (fun _ _ v w => v = w) ι H ((((fa e).bind fun x => M.ret (some x)).bind fun y => M.opt (optI y)) m) Q fun c d H' => W c d σ H' := h
  simp only [bind_assoc, ret_bind] at h
  refine (po_some ha).run pins s σ H Q I ⟨ι, e, m, r, er, ?_⟩
  refine PostG.bind h fun w m1 x ι1 H1 _ ex r1 dx q => ?_
  cases w with
  | d y =>
    cases y with
    | int i => cases dx; exact ⟨i, rfl, q _ ι1 H1 Ex.refl r1 rfl⟩
    | _ => exact q.elim
  | _ => exact q.elim
theorem goP {lo : Option Expr} {fp : Env → M (Option Int)} {g : Option Int → M α} {Q : β → Hp → Prop} (ha : PO X lo (tMP G W fp)) (I : Inv X pins σ H s) (r : MRel G ι H m) (er : ERel G ι H σ e) (h : PostG G R ι H ((M.bind (fp e) g) m) Q fun c d H' => W c d σ H') :
    wpAny (model X.prog X.w) X.A (evalPart lo X.env) (fun u s1 => ∃ o ι1 H1 m1, Inv X pins σ H1 s1 ∧ IsPart u o ∧ MRel G ι1 H1 m1 ∧ ERel G ι1 H1 σ e ∧ Ex ι H ι1 H1 ∧ PostG G R ι1 H1 (g o m1) Q fun c d H' => W c d σ H') X.xe s := by
  refine thn (ha.run pins s σ H (fun o H1 => ∃ ι1 m1, MRel G ι1 H1 m1 ∧ ERel G ι1 H1 σ e ∧ Ex ι H ι1 H1 ∧ PostG G R ι1 H1 (g o m1) Q fun c d H' => W c d σ H') I ⟨ι, e, m, r, er, ?_⟩) fun k s1 ⟨o, H1, I1, ip, ι1, m1, h1⟩ => ⟨o, ι1, H1, m1, I1, ip, h1⟩
  exact PostG.bind h fun w m1 x ι1 H1 _ ex r1 dx p => ⟨ι1, m1, r1, er.ex ex, ex, by rw [dx]; exact p⟩
def rSl (G : Gl) : V → Option Int → Option Int → Hp → VK → Prop := fun x lo hi H Q => ∃ ι m, SlD G ι m x lo hi H Q
theorem sl_any (cx : Cok G P C X W n) : SlR X (rSl G) := fun pins s σ H x v vl vu lo hi sl Q I rx hs pl pu ⟨ι, m, h⟩ => sl_ok cx pins s σ H x v vl vu lo hi sl Q I rx hs pl pu h
theorem s_slc (cx : Cok G P C X W n) {lo hi : Option Expr} {f1 f2 : Env → M (Option Int)} (ha : PE X a (tM G W fa)) (hl : PO X lo (tMP G W f1)) (hh : PO X hi (tMP G W f2)) :
    PE X (.Subscript a (.Slice lo hi none p2) pos) (tM G W fun e => (fa e).bind fun x => (f1 e).bind fun y => (f2 e).bind fun z => M.opt (slcD x y z)) := by
  refine ⟨fun pins s σ H Q I ⟨ι, e, m, r, er, h⟩ => ?_⟩
  refine (pe_slice (sl_any cx) ha hl hh).run pins s σ H Q I ⟨ι, e, m, r, er, ?_⟩
  refine PostG.bind h fun w m1 x ι1 H1 _ ex1 r1 dx h1 => ⟨ι1, e, m1, r1, er.ex ex1, ?_⟩
  refine PostG.bind h1 fun y m2 y' ι2 H2 _ ex2 r2 ey h2 => ⟨ι2, e, m2, r2, (er.ex ex1).ex ex2, ?_⟩
  refine PostG.bind h2 fun z m3 z' ι3 H3 _ ex3 r3 ez h3 => ?_
  subst ey
  subst ez
  obtain ⟨q, eq, h4⟩ := opt_post h3
  have dx3 := (dx.ex ex2).ex ex3
  unfold slcD at eq
  split at eq
  · cases eq
    exact ⟨ι3, m3, r3, .inl ⟨_, dx3, fun v H' x r d => h4 v ι3 H' x r d⟩⟩
  · cases eq
    exact ⟨ι3, m3, r3, .inr (.inl ⟨_, dx3, fun v H' x r d => h4 v ι3 H' x r d⟩)⟩
  · cases eq
    exact ⟨ι3, m3, r3, .inr (.inr ⟨_, dx3, fun v H' x r d => h4 v ι3 H' x r d⟩)⟩
  · cases eq

/-! ### argument lists -/
def nst : Expr → Bool
  | .Starred _ _ => false
  | _ => true
theorem star_cons {env : PySem.Env} (h : nst a = true) : starEach (a :: es) env = (false, eval a env) :: starEach es env := by
  cases a <;> first | rfl | cases h
def nsts : List Expr → Bool
  | [] => true
  | a :: r => nst a && nsts r
theorem star_any {env : PySem.Env} : ∀ {es : List Expr}, nsts es = true → (backTo pos (starEach es env)).any (·.1) = false
  | [], _ => rfl
  | a :: r, h => by
    obtain ⟨h1, h2⟩ := Bool.and_eq_true_iff.mp h
    rw [star_cons h1]
    show (false || (backTo pos (starEach r env)).any (·.1)) = false
    rw [star_any h2]
    rfl
/-- keywords -/
theorem k_nil : PK X [] (tML G W fun _ => M.ret []) := ⟨fun p pins s σ H Q I ⟨ι, e, m, r, er, h⟩ => wpAny_evalAll_nil ⟨[], H, I, .nil, h [] ι H Ex.refl r trivial⟩⟩
theorem k_cons {nm : Option Str} {kpos : Pos} {kws : List Keyword} (ha : PE X a (tM G W fa)) (hr : PK X kws (tML G W fl)) : PK X (⟨nm, a, kpos⟩ :: kws) (tML G W fun e => (fa e).bind fun x => (fl e).bind fun xs => M.ret (x :: xs)) := by
  refine ⟨fun pos pins s σ H Q I ⟨ι, e, m, r, er, h⟩ => ?_⟩
  refine (pk_cons ha hr).run pos pins s σ H Q I ⟨ι, e, m, r, er, ?_⟩
  refine PostG.bind h fun w m1 x ι1 H1 _ ex1 r1 dx h1 => ⟨ι1, e, m1, r1, er.ex ex1, ?_⟩
  exact PostG.bind h1 fun y m2 y' ι2 H2 _ ex2 r2 ey h2 => h2 (x :: y') ι2 H2 Ex.refl r2 ⟨dx.ex ex2, ey⟩
theorem goK {kws : List Keyword} {g : List Tn.W → M α} {Q : β → Hp → Prop} (ha : PK X kws (tML G W fl)) (p : Pos) (I : Inv X pins σ H s) (r : MRel G ι H m) (er : ERel G ι H σ e) (h : PostG G R ι H ((M.bind (fl e) g) m) Q fun c d H' => W c d σ H') :
    wpAny (model X.prog X.w) X.A (evalAll ((backToKw p (keywordEach kws X.env)).map (·.2))) (fun us s1 => ∃ vs ws ι1 H1 m1, Inv X pins σ H1 s1 ∧ Vals vs us ∧ DenWs G ι1 H1 vs ws ∧ MRel G ι1 H1 m1 ∧ ERel G ι1 H1 σ e ∧ Ex ι H ι1 H1 ∧ PostG G R ι1 H1 (g ws m1) Q fun c d H' => W c d σ H') X.xe s := by
  refine thn (ha.run p pins s σ H (fun vs H1 => ∃ ws ι1 m1, DenWs G ι1 H1 vs ws ∧ MRel G ι1 H1 m1 ∧ ERel G ι1 H1 σ e ∧ Ex ι H ι1 H1 ∧ PostG G R ι1 H1 (g ws m1) Q fun c d H' => W c d σ H') I ⟨ι, e, m, r, er, ?_⟩) fun us s1 ⟨vs, H1, I1, rv, ws, ι1, m1, h1⟩ => ⟨vs, ws, ι1, H1, m1, I1, rv, h1⟩
  exact PostG.bind h fun w m1 x ι1 H1 _ ex r1 dx p => ⟨w, ι1, m1, dx, r1, er.ex ex, ex, p⟩
theorem DenWs.append : ∀ {vs us : List V} {ws zs : List Tn.W}, DenWs G ι H vs ws → DenWs G ι H us zs → DenWs G ι H (vs ++ us) (ws ++ zs)
  | [], _, [], _, _, d => d
  | _ :: _, _, _ :: _, _, c, d => ⟨c.1, DenWs.append c.2 d⟩
  | [], _, _ :: _, _, c, _ => c.elim
  | _ :: _, _, [], _, c, _ => c.elim

/-! ### calls of what is written -/
/-- the keywords' names -/
def kwNm (G : Gl) : List Keyword → List Nat → Bool
  | [], [] => true
  | ⟨some x, _, _⟩ :: r, k :: ks => decide (x = G.nm k) && kwNm G r ks
  | _, _ => false
theorem kw_all {env : PySem.Env} : ∀ {kws : List Keyword} {ks : List Nat}, kwNm G kws ks = true → (backToKw pos (keywordEach kws env)).all (·.1.isSome) = true ∧ (backToKw pos (keywordEach kws env)).filterMap (·.1) = ks.map G.nm ∧ (backToKw pos (keywordEach kws env)).any (·.1.isNone) = false
  | [], [], _ => ⟨rfl, rfl, rfl⟩
  | ⟨some x, v, q⟩ :: r, k :: ks, h => by
    obtain ⟨h1, h2⟩ := Bool.and_eq_true_iff.mp h
    obtain ⟨a, b, c⟩ := kw_all (env := env) h2
    refine ⟨?_, ?_, ?_⟩
    · show (true && (backToKw pos (keywordEach r env)).all (·.1.isSome)) = true
      rw [a]
      rfl
    · show x :: (backToKw pos (keywordEach r env)).filterMap (·.1) = _
      rw [b, of_decide_eq_true h1]
      rfl
    · show (false || (backToKw pos (keywordEach r env)).any (·.1.isNone)) = false
      rw [c]
      rfl
  | [], _ :: _, h => by cases h
  | ⟨none, _, _⟩ :: _, _, h => by simp [kwNm] at h
  | ⟨some _, _, _⟩ :: _, [], h => by simp [kwNm] at h
/-- a value that is kept, called with positional values and keywords -/
theorem s_callV {kws : List Keyword} {ks : List Nat} {f : Value} {g : List Tn.W → List Tn.W → M Tn.W} {Q : VK} (hk : PySem.W.keepIn X.K f = true) (hst : nsts es = true) (h0 : es = [] → ∀ e, fl e = M.ret []) (hkw : kwNm G kws ks = true) (ha : PA X es (tML G W fl)) (hw : PK X kws (tML G W fk)) (I : Inv X pins σ H s) (r : MRel G ι H m) (er : ERel G ι H σ e)
    (h : Post G ι H (((fl e).bind fun ws => (fk e).bind fun zs => g ws zs) m) Q fun c d H' => W c d σ H')
    (hc : ∀ (us us2 : List Value) (vs vs2 : List V) (ws zs : List Tn.W) (s2 : Shared) (ι2 : List Addr) (H2 : Hp) (m2 : Mu), Inv X pins σ H2 s2 → MRel G ι2 H2 m2 → Vals vs us → Vals vs2 us2 → DenWs G ι2 H2 vs ws → DenWs G ι2 H2 vs2 zs → Post G ι2 H2 (g ws zs m2) Q (fun c d H' => W c d σ H') →
      wpAny (model X.prog X.w) X.A (call f us ((ks.map G.nm).zip us2)) (EP X pins σ Q) X.xe s2) :
    wpAny (model X.prog X.w) X.A (callWith pos f [] (backTo pos (starEach es X.env)) (backToKw pos (keywordEach kws X.env))) (EP X pins σ Q) X.xe s := by
  obtain ⟨k1, k2, k3⟩ := kw_all (pos := pos) (env := X.env) hkw
  cases es with
  | nil =>
    rw [h0 rfl e] at h
    have h : Post G ι H (((fk e).bind fun zs => g [] zs) m) Q fun c d H' => W c d σ H' := h
    refine PySem.W.callWith_KW0 (h₀ := X.base) I.ok.mod.kin hk k1 (thn (goK hw pos I r er h) fun us2 s2 ⟨vs2, zs, ι2, H2, m2, I2, rz, dz, r2, er2, ex2, h2⟩ => ⟨I2.kIn, ?_⟩) ?_
    · rw [k2]
      exact hc [] us2 [] vs2 [] zs s2 ι2 H2 m2 I2 r2 .nil rz trivial dz h2
    · rw [star_any hst, k3]
      rfl
  | cons a es =>
    obtain ⟨h1, h2⟩ := Bool.and_eq_true_iff.mp hst
    refine PySem.W.callWith_KW (h₀ := X.base) I.ok.mod.kin hk k1 (thn (goA ha pos I r er h) fun us s1 ⟨vs, ws, ι1, H1, m1, I1, rv, dv, r1, er1, ex1, h1⟩ => ?_) ?_ (star_cons h1)
    · refine thn (goK hw pos I1 r1 er1 h1) fun us2 s2 ⟨vs2, zs, ι2, H2, m2, I2, rz, dz, r2, er2, ex2, h2⟩ => ⟨I2.kIn, ?_⟩
      rw [k2]
      exact hc us us2 vs vs2 ws zs s2 ι2 H2 m2 I2 r2 rv rz (dv.ex ex2) dz h2
    · rw [star_any hst, k3]
      rfl

/-- f(..), C(..): a written def, a written class -/
theorem s_call (cx : Cok G P C X W n) {g nn : Nat} {kws : List Keyword} {ks : List Nat} (hg : L2.Gl X (G.gn g)) (hdb : (G.gn g == ("__debug__" : Str)) = false) (hst : nsts es = true) (h0 : es = [] → ∀ e, fl e = M.ret []) (hkw : kwNm G kws ks = true) (ha : PA X es (tML G W fl)) (hw : PK X kws (tML G W fk))
    (hn1 : ∀ e m ws m1, fl e m = .ok ws m1 → ws.length = nn) (hn2 : ∀ e m ws m1, fk e m = .ok ws m1 → ws.length = ks.length) (hx : (∃ f, P.glo[g]? = some (.fn f)) ∨ ∃ c k, P.glo[g]? = some (.cls c) ∧ P.cls[c]? = some k) :
    PE X (.Call (.Name (G.gn g) p) es kws pos) (tM G W fun e => (fl e).bind fun ws => (fk e).bind fun zs => callG P C g nn ks (ws ++ zs)) := by
  refine ⟨fun pins s σ H Q I ⟨ι, e, m, r, er, h⟩ => ?_⟩
  have h : Post G ι H (((fl e).bind fun ws => (fk e).bind fun zs => callG P C g nn ks (ws ++ zs)) m) Q fun c d H' => W c d σ H' := h
  -- the lengths go along
  have h2 : Post G ι H (((fl e).bind fun ws => (fk e).bind fun zs => fun m => if ws.length = nn ∧ zs.length = ks.length then callG P C g nn ks (ws ++ zs) m else .stuck) m) Q fun c d H' => W c d σ H' := by
    unfold M.bind at h ⊢
    cases e1 : fl e m with
    | stuck => rw [e1] at h; exact h
    | exc _ _ _ => rw [e1] at h; exact h
    | ok ws m1 =>
      rw [e1] at h
      simp only at h ⊢
      cases e2 : fk e m1 with
      | stuck => rw [e2] at h; exact h
      | exc _ _ _ => rw [e2] at h; exact h
      | ok zs m2 =>
        rw [e2] at h
        simp only at h ⊢
        rw [if_pos ⟨hn1 _ _ _ _ e1, hn2 _ _ _ _ e2⟩]
        exact h
  rcases hx with ⟨f, eg⟩ | ⟨c, k, eg, ec⟩
  · obtain ⟨gm, gk⟩ := cx.good.glo g _ eg
    rw [← cx.k] at gk
    refine wpAny_Call_Name_kw (ld_glob I hg gm ?_ hdb)
    refine s_callV gk hst h0 hkw ha hw I r er h2 fun us us2 vs vs2 ws zs s2 ι2 H2 m2 I2 r2 rv rz dv dz h3 => ?_
    by_cases hl : ws.length = nn ∧ zs.length = ks.length
    · rw [if_pos hl] at h3
      unfold callG at h3
      rw [eg] at h3
      cases ef : P.fill g nn ks with
      | none => rw [ef] at h3; exact h3.elim
      | some fl2 =>
        rw [ef] at h3
        simp only at h3
        have sh := cx.good.shp g nn ks fl2 ef
        unfold ShpOk at sh
        rw [eg] at sh
        cases e3 : fillWith (ws ++ zs) fl2 with
        | none => rw [e3] at h3; exact h3.elim
        | some l =>
          rw [e3] at h3
          exact callF_ok cx sh I2 r2 rfl (by rw [← rv.length, dv.length]; exact hl.1) (by rw [← rz.length, dz.length]; exact hl.2) (rv.append rz) (dv.append dz) e3 h3
    · rw [if_neg hl] at h3
      exact h3.elim
  · have gm : X.mg (G.gn g) = some (.ref (G.ca c)) := cx.good.glo g _ eg
    have gk := (cx.good.cls c k ec).mkr.kp
    rw [← cx.k] at gk
    refine wpAny_Call_Name_kw (ld_glob I hg gm ?_ hdb)
    refine s_callV gk hst h0 hkw ha hw I r er h2 fun us us2 vs vs2 ws zs s2 ι2 H2 m2 I2 r2 rv rz dv dz h3 => ?_
    by_cases hl : ws.length = nn ∧ zs.length = ks.length
    · rw [if_pos hl] at h3
      unfold callG at h3
      rw [eg] at h3
      cases ef : P.fill g nn ks with
      | none => rw [ef] at h3; exact h3.elim
      | some fl2 =>
        rw [ef] at h3
        simp only at h3
        have sh := cx.good.shp g nn ks fl2 ef
        unfold ShpOk at sh
        rw [eg] at sh
        cases e3 : fillWith (ws ++ zs) fl2 with
        | none => rw [e3] at h3; exact h3.elim
        | some l =>
          rw [e3] at h3
          exact mk_ok cx ec (sh k ec) I2 r2 rfl (by rw [← rv.length, dv.length]; exact hl.1) (by rw [← rz.length, dz.length]; exact hl.2) (rv.append rz) (dv.append dz) e3 h3
    · rw [if_neg hl] at h3
      exact h3.elim
/-- o.m(..) -/
theorem methF_ok {w : Tn.W} {f : Nat} {k : Nat → M α} {Q : β → Hp → Prop} {x : V} (gp : GoodP G P X.mg) (r : MRel G ι H m) (dx : DenW G ι H x w) (h : PostG G R ι H (((methF P w f).bind k) m) Q E) :
    ∃ g c kk a dx fs, x = .ref a ∧ H a = some (.ins (G.ca c) dx fs) ∧ P.cls[c]? = some kk ∧ kk.meths.lookup f = some g ∧ fs.lookup (G.nm f) = none ∧ PostG G R ι H (k g m) Q E := by
  have nof : ∀ {c g : Nat}, P.meth c f = some g → ∃ kk, P.cls[c]? = some kk ∧ kk.meths.lookup f = some g := Pg.meth_at
  unfold M.bind at h
  cases w with
  | lam _ _ => exact h.elim
  | d y =>
    cases y with
    | ins c ds =>
      obtain ⟨a, dx1, fs, vs, rfl, ha, e1, e2, e3, dl⟩ := Den.insAt dx
      simp only [methF] at h
      cases em : P.meth c f with
      | none => rw [em] at h; exact h.elim
      | some g =>
        rw [em] at h
        obtain ⟨kk, ek, el⟩ := nof em
        refine ⟨g, c, kk, a, dx1, fs, rfl, e1, ek, el, ?_, h⟩
        cases q : fs.lookup (G.nm f) with
        | none => rfl
        | some v =>
          exfalso
          have z := e3 _ _ q
          have cg := gp.cls c kk ek
          rw [cg.fn] at z
          obtain ⟨f', hf', ef⟩ := List.mem_map.mp z
          rw [gp.inj _ _ ef] at hf'
          exact (cg.meth f g el).1 hf'
    | _ => exact h.elim
  | r i =>
    obtain ⟨a, ha, rfl⟩ := dx
    simp only [methF] at h
    cases hm : m[i]? with
    | none => rw [hm] at h; exact h.elim
    | some o =>
      rw [hm] at h
      cases o with
      | ins c fws =>
        obtain ⟨dx1, fs, vs, e1, hl, e2, dl, e3⟩ := r.ok i a _ ha hm
        simp only at h
        cases ei : (fws.lookup f).isNone with
        | false => rw [ei] at h; exact h.elim
        | true =>
          rw [ei] at h
          cases em : P.meth c f with
          | none => rw [em] at h; exact h.elim
          | some g =>
            rw [em] at h
            obtain ⟨kk, ek, el⟩ := nof em
            refine ⟨g, c, kk, a, dx1, fs, rfl, e1, ek, el, ?_, h⟩
            cases q : fs.lookup (G.nm f) with
            | none => rfl
            | some v =>
              exfalso
              obtain ⟨qq, hq, ef⟩ := e3 _ _ q
              have e5 := gp.inj _ _ ef
              have ei2 : fws.lookup f = none := by simpa using ei
              have : ∀ (l : List (Nat × Tn.W)), l.lookup f = none → ∀ z ∈ l, f ≠ z.1 := by
                intro l
                induction l with
                | nil => intro _ z hz; simp at hz
                | cons y ys ih =>
                  intro hl z hz
                  by_cases e6 : f = y.1
                  · subst e6
                    simp [List.lookup] at hl
                  · have e7 : (f == y.1) = false := by simpa using e6
                    rcases List.mem_cons.mp hz with rfl | hz
                    · exact e6
                    · exact ih (by simpa [List.lookup, e7] using hl) z hz
              exact this fws ei2 qq hq e5
      | _ => exact h.elim
theorem s_mth (cx : Cok G P C X W n) {f : Nat} {pl : Sem Bool} (hst : nsts es = true) (h0 : es = [] → ∀ e, fl e = M.ret []) (ha : PE X a (tM G W fa)) (hl : PA X es (tML G W fl))
    (ht : eval (.Call (.Attribute a (G.nm f) apos) es [] pos) X.env = (do
      let ov ← eval a X.env
      standAt apos.atName
      let (f, first) ← holding [ov] (getMethod ov (G.nm f) pl)
      callWith pos f first (backTo pos (starEach es X.env)) (backToKw pos (keywordEach [] X.env)))) :
    PE X (.Call (.Attribute a (G.nm f) apos) es [] pos) (tM G W fun e => (fa e).bind fun x => (methF P x f).bind fun g => (fl e).bind fun ws => C.hi g (x :: ws)) := by
  refine ⟨fun pins s σ H Q I ⟨ι, e, m, r, er, h⟩ => ?_⟩
  refine PySem.W.methodCall_KW (pl := pl) (thn (goE ha I r er h) fun u s1 ⟨x, w, ι1, H1, m1, I1, rx, dx, r1, er1, ex1, h1⟩ => ?_) ht
  obtain ⟨g, c, kk, o, dx1, fs, rfl, e1, ek, el, en, h1⟩ := methF_ok cx.good r1 dx h1
  cases rx
  have cg := cx.good.cls c kk ek
  obtain ⟨_, pb, mt⟩ := cg.meth f g el
  have c0 := cg.cl
  rw [← cx.k] at c0 mt
  refine getmeth_ok I1 e1 c0 mt en ?_
  cases es with
  | nil =>
    rw [h0 rfl e] at h1
    have h1 : Post G ι1 H1 (C.hi g [w] m1) Q fun c d H' => W c d σ H' := h1
    exact PySem.W.callWith_K0 I1.kIn mt.kp (hi_ok (us := [.ref o]) (vs := [.ref o]) (ws := [w]) cx pb I1 r1 (.cons rfl .nil) ⟨dx, trivial⟩ h1)
  | cons a es =>
    obtain ⟨h3, h4⟩ := Bool.and_eq_true_iff.mp hst
    refine PySem.W.callWith_K (first := [.ref o]) (h₀ := X.base) I.ok.mod.kin mt.kp (thn (goA hl pos I1 r1 er1 h1) fun us s2 ⟨vs, ws, ι2, H2, m2, I2, rv, dv, r2, er2, ex2, h2⟩ => ⟨I2.kIn, ?_⟩) (star_cons h3) (star_any h4)
    exact hi_ok (us := .ref o :: us) (vs := .ref o :: vs) (ws := w :: ws) cx pb I2 r2 (.cons rfl rv) ⟨dx.ex ex2, dv⟩ h2
/-- a call of an object that stands, whatever its dict -/
theorem cal_with {M : Model} {A : Around} {E : Value → Shared → Prop} {env : PySem.Env} {x C : Addr} {ox : Obj} {Q : Value → Shared → Prop} (hd : ox.data = .plain)
    (h : wpAny M A (spliced (backTo pos (starEach (a :: es) env))) (fun vs s1 => (∃ od, PySem.W.InstAt s1.heap x ox C od) ∧ wpAny M A (call (.ref x) vs) Q E s1) E s) (h1 : nst a = true) (h2 : nsts es = true) :
    wpAny M A (callWith pos (.ref x) [] (backTo pos (starEach (a :: es) env)) []) Q E s := by
  have hp : ((backTo pos (starEach (a :: es) env)).any (·.1) || ([] : List (Option Str × Sem Value)).any (·.1.isNone)) = false := by
    rw [star_any (es := a :: es) (by show (nst a && nsts es) = true; rw [h1, h2]; rfl)]
    rfl
  have h3 : wpAny M A (evalArgs (.ref x) true (backTo pos (starEach (a :: es) env)) []) (fun q s1 => (∃ od, PySem.W.InstAt s1.heap x ox C od) ∧ wpAny M A (call (.ref x) ([] ++ q.pos) q.kw) Q E s1) E s := by
    rw [star_cons h1] at h ⊢
    exact PySem.Calls.evalArgs_plain h
  unfold callWith
  refine wpAny_bind (wpAny_holding (wpAny_mono h3 (fun q s1 h4 => wpAny_bind (wpAny_standAt ?_)) fun _ _ y => y))
  obtain ⟨⟨od, J⟩, h5⟩ := h4
  simp only [hp]
  refine wpAny_bind ((PySem.W.kco_keeper (M := M) J hd).here ?_)
  have tail : ∀ {t : Sem Value}, wpAny M A t Q E s1 → wpAny M A (t >>= fun r => holding [r] point >>= fun _ => pure r) Q E s1 :=
    fun ht => wpAny_bind (wpAny_mono ht (fun r s2 hr => wpAny_bind (wpAny_holding (wpAny_point (wpAny_pure hr)))) fun _ _ y => y)
  exact tail (wpAny_operateT h5)
/-- x(..), x an own object with __call__ -/
theorem s_cal (cx : Cok G P C X W n) {i : Nat} {x : Str} (hN : X.N[i]? = some x) (hv : Vis X.env.scope x) (hd : (x == ("__debug__" : Str)) = false) (hcd : (x == ("__classdict__" : Str)) = false) (hst : nsts (a :: es) = true) (hl : PA X (a :: es) (tML G W fl))
    (hfn : ∀ c g, P.meth c nCall = some g → PySem.W.fnIn X.K (G.fa g) = true) :
    PE X (.Call (.Name x p) (a :: es) [] pos) (tM G W fun e => (M.opt ((e[i]?).bind id)).bind fun x => (calF P x).bind fun g => (fl e).bind fun ws => C.hi g (x :: ws)) := by
  refine ⟨fun pins s σ H Q I ⟨ι, e, m, r, er, h⟩ => ?_⟩
  refine wpAny_Call_Name_kw (thn (goE (s_var hN hv hd hcd) I r er h) fun u s1 ⟨y, w, ι1, H1, m1, I1, rx, dx, r1, er1, ex1, h1⟩ => ?_)
  unfold calF at h1
  split at h1
  · rename_i c ds
    obtain ⟨g, em, h1⟩ := opt_bind h1
    obtain ⟨kk, ek, el⟩ := Pg.meth_at em
    obtain ⟨o, dx1, fs, vs, rfl, ha, e1, e2, e3, dl⟩ := Den.insAt dx
    cases rx
    have cg := cx.good.cls c kk ek
    obtain ⟨_, pb, mt⟩ := cg.meth nCall g el
    have hf := hfn c g em
    rw [← cx.k] at mt
    have mi := mt.at_
    rw [cx.good.nms.2.2.2.2.1] at mi
    obtain ⟨h3, h4⟩ := Bool.and_eq_true_iff.mp hst
    obtain ⟨od1, J1, _⟩ := inst_at I1 e1
    refine cal_with (C := G.ca c) (ox := PySem.W.instObj (G.ca c) dx1) rfl (thn (goA hl pos I1 r1 er1 h1) fun us s2 ⟨vs2, ws, ι2, H2, m2, I2, rv, dv, r2, er2, ex2, h2⟩ => ?_) h3 h4
    obtain ⟨n1, n2⟩ := ex2.keep _ _ ha e1 nofun
    obtain ⟨od2, J2, _⟩ := inst_at I2 n2
    refine ⟨⟨_, J2⟩, ?_⟩
    have dy := dx.ex ex2
    have hl2 := cx.hiL g _ _ (Post.live h2)
    have dd : DenWs G ι2 H2 (V.ref o :: vs2) (.d (.ins c ds) :: ws) := ⟨dy, dv⟩
    have hv2 : (V.ref o :: vs2).length = (G.ps g).length := dd.length.trans hl2
    have F2 := cx.hi g
    rw [← cx.k] at F2
    have rr : Vals (V.ref o :: vs2) (Value.ref o :: us) := .cons rfl rv
    refine wpAny_call (PySem.W.kco_code I2.kIn J2 rfl mi mt.fn hf ?_)
    exact codeAny_mono (F2.run X.A X.stack s2 H2 ⟨.ref o :: us, []⟩ (.ref o :: us) (.ref o :: vs2) Q (fun c d H' => W c d σ H') cx.room cx.gd I2.env0 (pb.2 s2 _ (cx.kin I2) (rr.length ▸ hv2)) rr ⟨pb.1, hv2, ι2, _, m2, r2, dd, h2⟩) fun r s' hq => back_ok cx.tk I2 hq
  · exact h1.elim
end
end Tn

set_option Elab.async false
set_option linter.all false
set_option maxRecDepth 100000
namespace Tn
open PySem PySem.Spec PyProof.Rows L2

section
variable {α β : Type} {R : List Addr → Hp → β → α → Prop} {G : Gl} {P : Pg} {C : Tn.Call} {X : Cx} {W : WX} {n : Nat} {pins : List (Addr × Obj)} {σ : L2.St} {H : Hp} {s : Shared} {ι : List Addr} {m : Mu} {e : Env} {E : XK}
variable {a b c : Expr} {pos p p2 apos : Pos} {fa fb fc : Env → M Tn.W} {es : List Expr} {fl fk : Env → M (List Tn.W)}
/-! ### builtins -/
def bltN : BF → Str
  | .len => Str.ofString "len"
  | .abs => Str.ofString "abs"
  | .int => Str.ofString "int"
  | .str => Str.ofString "str"
  | .repr => Str.ofString "repr"
  | .max => Str.ofString "max"
  | .min => Str.ofString "min"
  | .all => Str.ofString "all"
  | .lst => Str.ofString "list"
  | .tup => Str.ofString "tuple"
  | .lrng => Str.ofString "list"
theorem blt_free (gp : GoodP G P X.mg) (b : BF) : X.mg (bltN b) = none := gp.free _ (by cases b <;> simp [bltN, bltNs])
theorem s_blt (cx : Cok G P C X W n) {f : BF} (hf : f ≠ .lrng) (hg : L2.Gl X (bltN f)) (hst : nsts (a :: es) = true) (ha : PA X (a :: es) (tML G W fl)) :
    PE X (.Call (.Name (bltN f) p) (a :: es) [] pos) (tM G W fun e => (fl e).bind fun ws => fun m => (M.opt (bltD f ws m)) m) := by
  obtain ⟨h3, h4⟩ := Bool.and_eq_true_iff.mp hst
  have mf := blt_free cx.good f
  have fin : ∀ {Q : VK} {pins s σ H ι e m}, Inv X pins σ H s → MRel G ι H m → ERel G ι H σ e → Post G ι H (((fl e).bind fun ws => fun m => (M.opt (bltD f ws m)) m) m) Q (fun c d H' => W c d σ H') →
      wpAny (model X.prog X.w) X.A (spliced (backTo pos (starEach (a :: es) X.env))) (fun us s1 => wpAny (model X.prog X.w) X.A (call (bltV f) us) (EP X pins σ Q) X.xe s1) X.xe s := fun I r er h =>
    thn (goA ha pos I r er h) fun us s1 ⟨vs, ws, ι1, H1, m1, I1, rv, dv, r1, er1, ex1, h1⟩ => by
      obtain ⟨z, ez, h3⟩ := opt_post h1
      by_cases hf2 : f = .tup
      · subst hf2
        cases ws with
        | nil => cases ez
        | cons w0 wr =>
          cases wr with
          | cons _ _ => cases ez
          | nil =>
            obtain ⟨x, u, rfl, rfl, rx, dx⟩ := one_of (R := fun _ _ _ _ => True) (α := Unit) rv dv
            exact tup_ok cx I1 r1 rx dx ez h3
      · exact blt_ok cx hf hf2 I1 r1 rv dv ez fun q dq => Post.ret h3 r1 dq
  refine ⟨fun pins s σ H Q I ⟨ι, e, m, r, er, h⟩ => ?_⟩
  cases f with
  | lrng => exact absurd rfl hf
  | len => exact wpAny_Call_Name_kw (ld_blt I hg mf rfl (PyProof.Rows.callWith_builtin1 (fin I r er h) (star_cons h3) (star_any h4)) (by decide) (by decide))
  | abs => exact wpAny_Call_Name_kw (ld_blt I hg mf rfl (PyProof.Rows.callWith_builtin1 (fin I r er h) (star_cons h3) (star_any h4)) (by decide) (by decide))
  | repr => exact wpAny_Call_Name_kw (ld_blt I hg mf rfl (PyProof.Rows.callWith_builtin1 (fin I r er h) (star_cons h3) (star_any h4)) (by decide) (by decide))
  | max => exact wpAny_Call_Name_kw (ld_blt I hg mf rfl (PyProof.Rows.callWith_builtin1 (fin I r er h) (star_cons h3) (star_any h4)) (by decide) (by decide))
  | min => exact wpAny_Call_Name_kw (ld_blt I hg mf rfl (PyProof.Rows.callWith_builtin1 (fin I r er h) (star_cons h3) (star_any h4)) (by decide) (by decide))
  | all => exact wpAny_Call_Name_kw (ld_blt I hg mf rfl (PyProof.Rows.callWith_builtin1 (fin I r er h) (star_cons h3) (star_any h4)) (by decide) (by decide))
  | int => exact wpAny_Call_Name_kw (ld_blt I hg mf rfl (PyProof.Rows.callWith_type1 (fin I r er h) (star_cons h3) (star_any h4)) (by decide) (by decide))
  | str => exact wpAny_Call_Name_kw (ld_blt I hg mf rfl (PyProof.Rows.callWith_type1 (fin I r er h) (star_cons h3) (star_any h4)) (by decide) (by decide))
  | lst => exact wpAny_Call_Name_kw (ld_blt I hg mf rfl (PyProof.Rows.callWith_type1 (fin I r er h) (star_cons h3) (star_any h4)) (by decide) (by decide))
  | tup => exact wpAny_Call_Name_kw (ld_blt I hg mf rfl (PyProof.Rows.callWith_type1 (fin I r er h) (star_cons h3) (star_any h4)) (by decide) (by decide))
/-- isinstance(a, C) -/
theorem s_isi (cx : Cok G P C X W n) {ct : Ct} (hg : L2.Gl X (Str.ofString "isinstance")) (hst : nsts [a, c] = true) (ha : PE X a (tM G W fa)) (hc : PE X c (tC (ctX G ct))) :
    PE X (.Call (.Name (Str.ofString "isinstance") p) [a, c] [] pos) (tM G W fun e => (fa e).bind fun x => (M.opt (isiD P x ct)).bind fun k => M.ret (.d (.bl k))) := by
  obtain ⟨h3, h4⟩ := Bool.and_eq_true_iff.mp hst
  obtain ⟨h5, _⟩ := Bool.and_eq_true_iff.mp h4
  have mf : X.mg (Str.ofString "isinstance") = none := cx.good.free _ (by simp [bltNs])
  refine ⟨fun pins s σ H Q I ⟨ι, e, m, r, er, h⟩ => ?_⟩
  refine wpAny_Call_Name_kw (ld_blt I hg mf rfl (PyProof.Rows.callWith_builtin1 ?_ (star_cons h3) (star_any h4)) (by decide) (by decide))
  rw [star_cons h3, star_cons h5]
  refine Calls.spliced_cons (thn (goE ha I r er h) fun v s1 ⟨x, w, ι1, H1, m1, I1, rx, dx, r1, er1, ex1, h1⟩ => ?_)
  refine Calls.spliced_cons (thn (hc.run pins s1 σ H1 (fun y H' => y = ctX G ct ∧ H' = H1) I1 ⟨rfl, rfl⟩) fun u s2 ⟨y, H2, I2, ry, ey, eH⟩ => ?_)
  subst ey
  subst eH
  refine Calls.spliced_nil ?_
  have eu : u = ctV G ct := (ct_cls ct).eq ry
  subst eu
  obtain ⟨k, ek, h2⟩ := opt_bind h1
  exact isi_ok cx I2 rx dx ek (Post.retD h2 r1 (.bl k))
theorem rng_den (lo : Int) (k : Nat) : ∀ (l : List Nat), DenL G ι H (l.map fun i => V.int (lo + (i : Nat))) (l.map fun (i : Nat) => D.int (lo + (i : Int)))
  | [] => .nil
  | i :: r => .cons (.int _) (rng_den lo k r)
/-- list(range(a)) -/
theorem s_lrng (cx : Cok G P C X W n) (hg : L2.Gl X (Str.ofString "list")) (hg2 : L2.Gl X (Str.ofString "range")) (hst : nst a = true) (ha : PE X a (tM G W fa)) :
    PE X (.Call (.Name (Str.ofString "list") p) [.Call (.Name (Str.ofString "range") p2) [a] [] apos] [] pos) (tM G W fun e => (fa e).bind fun x => fun m => (M.opt (bltD .lrng [x] m)) m) := by
  refine ⟨fun pins s σ H Q I ⟨ι, e, m, r, er, h⟩ => ?_⟩
  have m1 : X.mg (Str.ofString "list") = none := cx.good.free _ (by simp [bltNs])
  have m2 : X.mg (Str.ofString "range") = none := cx.good.free _ (by simp [bltNs])
  refine (pe_listRg cx.calm hg m1 (prg_1 hg2 m2 ha (star_cons hst))).run pins s σ H Q I ⟨ι, e, m, r, er, ?_⟩
  refine PostG.bind h fun w m1 x ι1 H1 _ ex r1 dx q => ?_
  obtain ⟨z, ez, q⟩ := opt_post q
  cases w with
  | d y =>
    cases y with
    | int j =>
      cases dx
      simp only [bltD] at ez
      cases eb : (decide (-(2 ^ 62) ≤ j) && decide (j < strTop)) with
      | false => rw [eb] at ez; cases ez
      | true =>
        rw [eb] at ez
        cases ez
        obtain ⟨b1, b2⟩ := Bool.and_eq_true_iff.mp eb
        have b1 := of_decide_eq_true b1
        have b2 := of_decide_eq_true b2
        have st : strTop = 4000000 := rfl
        refine ⟨j, rfl, ⟨by omega, by omega, b1, by omega, by omega⟩, fun p hp => ?_⟩
        refine Post.new q r1 hp (newLst r1 hp ?_)
        unfold rgV rngL
        have e0 : (j - 0).toNat = j.toNat := by simp
        rw [e0]
        exact rng_den 0 0 _
    | _ => cases ez
  | _ => cases ez

/-! ### iterators -/
structure ItOk (G : Gl) (ι : List Addr) (H : Hp) (J : L2.It) (ws : List Tn.W) : Prop where
  go : ∀ i ι' H' m', Ex ι H ι' H' → MRel G ι' H' m' → i < ws.length → J.go i H'
  yld : ∀ i ι' H' m' x H'', Ex ι H ι' H' → MRel G ι' H' m' → i < ws.length → J.yld i H' x H'' → ∃ w, ws[i]? = some w ∧ Ex ι' H' ι' H'' ∧ MRel G ι' H'' m' ∧ DenW G ι' H'' x w
  stop : ∀ i ι' H' m', Ex ι H ι' H' → MRel G ι' H' m' → ws.length ≤ i → J.stop i H'
def tMI (G : Gl) (W : WX) (f : Env → M (List Tn.W)) : TI := fun σ H Q => ∃ ι e m, MRel G ι H m ∧ ERel G ι H σ e ∧ PostG G (fun ι H J ws => ItOk G ι H J ws) ι H (f e m) Q fun c d H' => W c d σ H'
theorem sqL_ex {K : PySem.W.Frag} {ι' : List Addr} {H' : Hp} {a : Addr} {xs : List V} (h : a ∉ ι) (e : H a = some (.lst xs)) (x : Ex ι H ι' H') : SqL K H' a xs := .of (x.keep a _ h e nofun).2
theorem it_lst {K : PySem.W.Frag} {a : Addr} {vs : List V} {ds : List D} (hl : ∀ ι' H', Ex ι H ι' H' → SqL K H' a vs) (d : DenL G ι H vs ds) : ItOk G ι H (Itl K a) (ds.map .d) := by
  refine ⟨fun i ι' H' m' x r hi => ?_, fun i ι' H' m' v H'' x r hi hy => ?_, fun i ι' H' m' x r hi => ⟨vs, hl _ _ x, by rw [d.length]; simpa using hi⟩⟩
  · have hi2 : i < vs.length := by rw [d.length]; simpa using hi
    exact ⟨vs, vs[i], hl _ _ x, List.getElem?_eq_getElem hi2⟩
  · obtain ⟨rfl, hy⟩ := hy
    have e1 := hy vs (hl _ _ x)
    obtain ⟨w, ew, dw⟩ : ∃ w, (ds.map Tn.W.d)[i]? = some w ∧ DenW G ι H v w := by
      have hi2 : i < ds.length := by rw [← d.length]; exact (List.getElem?_eq_some_iff.mp e1).1
      obtain ⟨u, eu, du⟩ := d.get (List.getElem?_eq_getElem hi2)
      rw [e1] at eu
      cases eu
      exact ⟨.d ds[i], by rw [List.getElem?_map, List.getElem?_eq_getElem hi2]; rfl, du⟩
    exact ⟨w, ew, Ex.refl, r, dw.ex x⟩
theorem it_tup {K : PySem.W.Frag} {a : Addr} {vs : List V} {ds : List D} (hl : ∀ ι' H', Ex ι H ι' H' → SqT K H' a vs) (d : DenL G ι H vs ds) : ItOk G ι H (Itt K a) (ds.map .d) := by
  refine ⟨fun i ι' H' m' x r hi => ?_, fun i ι' H' m' v H'' x r hi hy => ?_, fun i ι' H' m' x r hi => ⟨vs, hl _ _ x, by rw [d.length]; simpa using hi⟩⟩
  · have hi2 : i < vs.length := by rw [d.length]; simpa using hi
    exact ⟨vs, vs[i], hl _ _ x, List.getElem?_eq_getElem hi2⟩
  · obtain ⟨rfl, hy⟩ := hy
    have e1 := hy vs (hl _ _ x)
    obtain ⟨w, ew, dw⟩ : ∃ w, (ds.map Tn.W.d)[i]? = some w ∧ DenW G ι H v w := by
      have hi2 : i < ds.length := by rw [← d.length]; exact (List.getElem?_eq_some_iff.mp e1).1
      obtain ⟨u, eu, du⟩ := d.get (List.getElem?_eq_getElem hi2)
      rw [e1] at eu
      cases eu
      exact ⟨.d ds[i], by rw [List.getElem?_map, List.getElem?_eq_getElem hi2]; rfl, du⟩
    exact ⟨w, ew, Ex.refl, r, dw.ex x⟩
theorem it_rng (lo : Int) (k : Nat) : ItOk G ι H (Itr lo k) ((rngL lo k).map .d) := by
  have hl : ((rngL lo k).map Tn.W.d).length = k := by simp [rngL]
  refine ⟨fun i ι' H' m' x r hi => by rw [hl] at hi; exact hi, fun i ι' H' m' v H'' x r hi hy => ?_, fun i ι' H' m' x r hi => by rw [hl] at hi; exact hi⟩
  obtain ⟨rfl, rfl⟩ := hy
  rw [hl] at hi
  refine ⟨.d (.int (lo + (i : Int))), ?_, Ex.refl, r, .int _⟩
  unfold rngL
  rw [List.getElem?_map, List.getElem?_map, List.getElem?_range hi]
  rfl
theorem it_str {x : Str} (hx : StrOk x) : ItOk G ι H (Its x) (x.cps.toList.map fun c => Tn.W.d (.str ⟨#[c]⟩)) := by
  refine ⟨fun i ι' H' m' _ r hi => (by simpa using hi : i < x.cps.size), fun i ι' H' m' v H'' ex r hi hy => ?_, fun i ι' H' m' _ r hi => (by simpa using hi : x.cps.size ≤ i)⟩
  obtain ⟨rfl, c, hc, rfl⟩ := hy
  have hc2 : x.cps.toList[i]? = some c := by simpa using hc
  exact ⟨.d (.str ⟨#[c]⟩), by rw [List.getElem?_map, hc2]; rfl, Ex.refl, r, .str (one_ok (hx.2 c (List.mem_of_getElem? hc2)))⟩
theorem i_seq (cx : Cok G P C X W n) {tg : Expr} (ha : PE X a (tM G W fa)) : PI X tg a (tMI G W fun e => (fa e).bind fun x => M.opt (seqI x)) := by
  refine ⟨fun pins s σ H R I ⟨ι, e, m, r, er, h⟩ => ?_⟩
  refine thn (goE ha I r er h) fun v s1 ⟨x, w, ι1, H1, m1, I1, rx, dx, r1, er1, ex1, h1⟩ => ?_
  unfold seqI at h1
  split at h1
  · rename_i z
    cases dx with
    | str hz =>
      obtain ⟨t, rfl⟩ := rx
      have h2 := h1 (Its z) ι1 H1 Ex.refl r1 (it_str hz)
      cases hall : z.cps.all (· < 128)
      · exact wpAny_pyIter_wide hall (pi_one (tk := s1.toks) I1 _ (turn_str _ z t "str_iterator" (.inr rfl)) ⟨_, Heap.get?_push_size _ rfl, rfl, rfl⟩ h2)
      · exact wpAny_pyIter_ascii hall (pi_one (tk := s1.toks) I1 _ (turn_str _ z t "str_ascii_iterator" (.inl rfl)) ⟨_, Heap.get?_push_size _ rfl, rfl, rfl⟩ h2)
  unfold seqD at h1
  split at h1
  · rename_i l
    cases dx with
    | tup q l1 =>
      rename_i a vs
      cases rx
      have q1 := q.sq
      have hl : ∀ ι' H', Ex ι1 H1 ι' H' → SqT X.K H' a vs := fun ι' H' x => by
        rw [cx.k]
        exact (x.rdT q).sq
      obtain ⟨its, rv, p, hz⟩ := I1.tuple (hl _ _ Ex.refl)
      refine wpAny_pyIter_tuple (show s1.heap.IsTuple a its.toArray from p) ?_
      refine ⟨s1.heap.objs.size, [s1.heap.objs.size], _, _, H1, rfl, I1.kept (t' := s1.toks) fun b o e => Heap.get?_push_of_some _ e, turn_tuple a _, ⟨_, Heap.get?_push_size _ rfl, rfl, rfl⟩, fun b hb => ?_, h1 _ ι1 H1 Ex.refl r1 (it_tup hl l1)⟩
      have e : b = s1.heap.objs.size := by simpa using hb
      subst e
      exact I1.fpOk (Nat.le_refl _) (I1.hok.fresh (Nat.le_refl _))
  · rename_i l
    cases dx with
    | lst q e0 l1 =>
      rename_i a vs
      cases rx
      have hl : ∀ ι' H', Ex ι1 H1 ι' H' → SqL X.K H' a vs := fun ι' H' x => sqL_ex q e0 x
      obtain ⟨its, rv, p, hz⟩ := I1.list (hl _ _ Ex.refl)
      refine wpAny_pyIter_list p.isList ?_
      refine ⟨s1.heap.objs.size, [s1.heap.objs.size], _, _, H1, rfl, I1.kept (t' := s1.toks) fun b o e => Heap.get?_push_of_some _ e, turn_list a _, ⟨_, Heap.get?_push_size _ rfl, rfl, rfl⟩, fun b hb => ?_, h1 _ ι1 H1 Ex.refl r1 (it_lst hl l1)⟩
      have e : b = s1.heap.objs.size := by simpa using hb
      subst e
      exact I1.fpOk (Nat.le_refl _) (I1.hok.fresh (Nat.le_refl _))
  · exact h1.elim
theorem i_rng1 (cx : Cok G P C X W n) {tg : Expr} (hg : L2.Gl X (Str.ofString "range")) (hst : nst a = true) (ha : PE X a (tM G W fa)) : PI X tg (.Call (.Name (Str.ofString "range") p) [a] [] pos) (tMI G W fun e => (fa e).bind rng1D) := by
  have m1 : X.mg (Str.ofString "range") = none := cx.good.free _ (by simp [bltNs])
  refine ⟨fun pins s σ H R I ⟨ι, e, m, r, er, h⟩ => ?_⟩
  refine (pi_range1 hg m1 (pa_cons ha pa_nil (star_cons hst)) (star_cons hst)).run pins s σ H R I ⟨ι, e, m, r, er, ?_⟩
  refine PostG.bind h fun w m1 x ι1 H1 _z ex r1 dx q => ?_
  clear _z
  unfold rng1D at q
  split at q
  · rename_i j
    cases dx
    cases eb : (decide (-(2 ^ 62) ≤ j) && decide (j < 2 ^ 62)) with
    | false => rw [eb] at q; exact q.elim
    | true =>
      rw [eb] at q
      obtain ⟨b1, b2⟩ := Bool.and_eq_true_iff.mp eb
      exact ⟨j, rfl, of_decide_eq_true b1, of_decide_eq_true b2, q _ ι1 H1 Ex.refl r1 (it_rng 0 _)⟩
  · exact q.elim
theorem i_rng2 (cx : Cok G P C X W n) {tg : Expr} (hg : L2.Gl X (Str.ofString "range")) (hst : nst a = true) (hst2 : nst b = true) (ha : PE X a (tM G W fa)) (hb : PE X b (tM G W fb)) : PI X tg (.Call (.Name (Str.ofString "range") p) [a, b] [] pos) (tMI G W fun e => (fa e).bind fun x => (fb e).bind fun y => rng2D x y) := by
  have m1 : X.mg (Str.ofString "range") = none := cx.good.free _ (by simp [bltNs])
  refine ⟨fun pins s σ H R I ⟨ι, e, m, r, er, h⟩ => ?_⟩
  refine (pi_range2 hg m1 (pa_cons ha (pa_cons hb pa_nil (star_cons hst2)) (star_cons hst)) (by rw [star_cons hst, star_cons hst2]; rfl) (star_cons hst2)).run pins s σ H R I ⟨ι, e, m, r, er, ?_⟩
  refine PostG.bind h fun w m1 x ι1 H1 _z ex r1 dx q => ⟨ι1, e, m1, r1, er.ex ex, ?_⟩
  clear _z
  refine PostG.bind q fun w2 m2 x2 ι2 H2 _z ex2 r2 dx2 q2 => ?_
  clear _z
  unfold rng2D at q2
  split at q2
  · rename_i i j
    cases dx
    cases dx2
    cases eb : ((decide (-(2 ^ 62) ≤ i) && decide (i < 2 ^ 62)) && (decide (-(2 ^ 62) ≤ j) && decide (j < 2 ^ 62))) with
    | false => rw [eb] at q2; exact q2.elim
    | true =>
      rw [eb] at q2
      obtain ⟨b1, b2⟩ := Bool.and_eq_true_iff.mp eb
      obtain ⟨b3, b4⟩ := Bool.and_eq_true_iff.mp b1
      obtain ⟨b5, b6⟩ := Bool.and_eq_true_iff.mp b2
      exact ⟨i, j, rfl, ⟨of_decide_eq_true b3, of_decide_eq_true b4, of_decide_eq_true b5, of_decide_eq_true b6⟩, q2 _ ι2 H2 Ex.refl r2 (it_rng i _)⟩
  · exact q2.elim

/-! ### targets -/
def gNames : List Nat → TGs
  | [] => gNil
  | i :: r => gCons (gName i) (gNames r)
def gTg (K : PySem.W.Frag) : Tg → TG
  | .nm i => gName i
  | .tp l => fun v σ H Q => gTup K l.length (gNames l) v σ H Q ∨ gLst K l.length (gNames l) v σ H Q
theorem wipe_set {i : Nat} {v : Option V} {vs : List Nat} (h : i ∈ vs) : L2.wipe (σ.set i v) vs = L2.wipe σ vs := by
  apply List.ext_getElem?
  intro j
  by_cases hj : j ∈ vs
  · have key : ∀ τ : L2.St, τ.length = σ.length → (L2.wipe τ vs)[j]? = if j < σ.length then some none else none := fun τ hl => by
      by_cases hl2 : j < σ.length
      · rw [if_pos hl2]
        have hlt : j < (L2.wipe τ vs).length := by rw [L2.wipe_length, hl]; exact hl2
        rw [List.getElem?_eq_getElem hlt]
        cases q : (L2.wipe τ vs)[j] with
        | none => rfl
        | some x => exact absurd hj (L2.wipe_some (by rw [List.getElem?_eq_getElem hlt, q])).2
      · rw [if_neg hl2]
        exact List.getElem?_eq_none (by rw [L2.wipe_length, hl]; omega)
    rw [key _ (by simp), key _ rfl]
  · rw [L2.wipe_out hj, L2.wipe_out hj, List.getElem?_set_ne (fun z : i = j => hj (z ▸ h))]
theorem names_ok : ∀ {l : List Nat} {vs : List V} {ds : List D} {σ : L2.St} {e : Env} {Q : L2.St → Hp → Prop}, l.length = ds.length → DenL G ι H vs ds → ERel G ι H σ e →
    (∀ σ', ERel G ι H σ' ((l.zip ds).foldl (fun e q => e.set q.1 (some (.d q.2))) e) → (∀ vs, (∀ i ∈ l, i ∈ vs) → L2.wipe σ' vs = L2.wipe σ vs) → Q σ' H) → gNames l vs σ H Q
  | [], _, _, σ, e, Q, hl, .nil, er, h => ⟨rfl, h σ er fun _ _ => rfl⟩
  | [], _, _, _, _, _, hl, .cons _ _, _, _ => by simp at hl
  | i :: r, _, _, _, _, _, hl, .nil, _, _ => by simp at hl
  | i :: r, v :: vs, d :: ds, σ, e, Q, hl, .cons h1 t, er, h => by
    refine ⟨v, vs, rfl, ?_⟩
    refine names_ok (e := e.set i (some (.d d))) (by simpa using hl) t (er.set i h1) fun σ' er' hw => h σ' (by simpa using er') fun vs hv => ?_
    rw [hw vs fun j hj => hv j (List.mem_cons_of_mem _ hj)]
    exact wipe_set (hv i List.mem_cons_self)
end
end Tn

set_option Elab.async false
set_option linter.all false
set_option maxRecDepth 100000
namespace Tn
open PySem PySem.Spec PyProof.Rows L2

section
variable {α β : Type} {R : List Addr → Hp → β → α → Prop} {G : Gl} {P : Pg} {C : Tn.Call} {X : Cx} {W : WX} {n : Nat} {pins : List (Addr × Obj)} {σ : L2.St} {H : Hp} {s : Shared} {ι : List Addr} {m : Mu} {e : Env} {E : XK}
variable {a b c : Expr} {pos p p2 apos : Pos} {fa fb fc : Env → M Tn.W} {es : List Expr} {fl fk : Env → M (List Tn.W)}
/-! ### writing at what is told of -/
theorem Ex.write {a : Addr} {o : HO} (h : a ∈ ι) (hf : ∀ ob u, H a ≠ some (.frz ob u)) : Ex ι H ι (upd H a o) := by
  refine ⟨List.prefix_refl _, fun {b ob u} e => ?_, fun b u hb e _ => ⟨hb, ?_⟩⟩
  · rw [upd_ne (fun z : b = a => hf ob u (by rw [← z]; exact e))]
    exact e
  · rw [upd_ne (fun z : b = a => hb (by rw [z]; exact h))]
    exact e
theorem MRel.nofrz (r : MRel G ι H m) {a : Addr} (h : a ∈ ι) : ∀ ob u, H a ≠ some (.frz ob u) := by
  intro ob u z
  obtain ⟨i, hi, e⟩ := List.mem_iff_getElem.mp h
  have e1 : ι[i]? = some a := by rw [List.getElem?_eq_getElem hi, e]
  have hm : i < m.length := by rw [← r.len]; exact hi
  have q := r.ok i a _ e1 (List.getElem?_eq_getElem hm)
  cases w : m[i] with
  | lst ws => rw [w] at q; obtain ⟨vs, q, _⟩ := q; rw [q] at z; cases z
  | dic ws => rw [w] at q; obtain ⟨vs, q, _⟩ := q; rw [q] at z; cases z
  | ins c ws => rw [w] at q; obtain ⟨_, _, _, q, _⟩ := q; rw [q] at z; cases z
theorem nd_ix : ∀ (l : List Addr), l.Nodup → ∀ (i j : Nat) (x : Addr), l[i]? = some x → l[j]? = some x → i = j := by
  intro l
  induction l with
  | nil => intro _ i j x h; simp at h
  | cons y ys ih =>
    intro nd i j x h h'
    obtain ⟨n1, n2⟩ := List.nodup_cons.mp nd
    cases i with
    | zero =>
      cases j with
      | zero => rfl
      | succ j =>
        have a1 : y = x := by simpa using h
        have a2 : ys[j]? = some x := by simpa using h'
        exact absurd (a1 ▸ List.mem_of_getElem? a2) n1
    | succ i =>
      cases j with
      | zero =>
        have a1 : y = x := by simpa using h'
        have a2 : ys[i]? = some x := by simpa using h
        exact absurd (a1 ▸ List.mem_of_getElem? a2) n1
      | succ j => rw [ih n2 i j x (by simpa using h) (by simpa using h')]
theorem MRel.write (r : MRel G ι H m) {i : Nat} {a : Addr} {o : HO} {u : MO} (h : ι[i]? = some a) (q : MoOk G ι (upd H a o) a u) : MRel G ι (upd H a o) (m.set i u) := by
  have ex : Ex ι H ι (upd H a o) := Ex.write (List.mem_of_getElem? h) (r.nofrz (List.mem_of_getElem? h))
  have nt : ∀ b o, H b = some o → ((∃ ps, o = .tbl ps) ∨ ∃ p, o = .ext p) → b ≠ a := fun b o e k z => by
    subst z
    obtain ⟨hi, e2⟩ := List.getElem?_eq_some_iff.mp h
    have hm : i < m.length := by rw [← r.len]; exact hi
    have q := r.ok i b _ h (List.getElem?_eq_getElem hm)
    have q2 : ∃ o, H b = some o ∧ (∀ ps, o ≠ .tbl ps) ∧ ∀ p, o ≠ .ext p := by
      cases w : m[i] with
      | lst ws => rw [w] at q; obtain ⟨vs, q, _⟩ := q; exact ⟨_, q, nofun, nofun⟩
      | dic ws => rw [w] at q; obtain ⟨vs, q, _⟩ := q; exact ⟨_, q, nofun, nofun⟩
      | ins c ws => rw [w] at q; obtain ⟨_, _, _, q, _⟩ := q; exact ⟨_, q, nofun, nofun⟩
    obtain ⟨o2, q3, q4, q5⟩ := q2
    rw [e] at q3
    cases q3
    rcases k with ⟨ps, k⟩ | ⟨p, k⟩
    · exact q4 ps k
    · exact q5 p k
  have tb : LamX.Tabs G.T (upd H a o) := fun p hp => by
    obtain ⟨ps, t1, t2, t3⟩ := r.tb p hp
    refine ⟨ps, by rw [upd_ne (nt _ _ t1 (.inl ⟨ps, rfl⟩))]; exact t1, t2, fun pos cv hc => ?_⟩
    obtain ⟨c, t4, t5⟩ := t3 pos cv hc
    exact ⟨c, t4, by rw [upd_ne (nt _ _ t5 (.inr ⟨_, rfl⟩))]; exact t5⟩
  refine ⟨r.nd, by rw [List.length_set, r.len], fun j b v h1 h2 => ?_, tb⟩
  by_cases hj : i = j
  · subst hj
    rw [h] at h1
    cases h1
    have hl : i < m.length := by rw [← r.len]; exact (List.getElem?_eq_some_iff.mp h).1
    rw [List.getElem?_set_self hl] at h2
    cases h2
    exact q
  · rw [List.getElem?_set_ne hj] at h2
    have hne : b ≠ a := fun z => by
      subst z
      exact hj (nd_ix ι r.nd i j b h h1)
    exact (r.ok j b v h1 h2).ex ex (upd_ne hne)
/-- a new list that is told of -/
theorem MRel.pushL (r : MRel G ι H m) {x : Addr} {vs : List V} {ws : List Tn.W} (hx : H x = none) (d : DenWs G ι H vs ws) : MRel G (ι ++ [x]) (upd H x (.lst vs)) (m ++ [.lst ws]) ∧ Ex ι H (ι ++ [x]) (upd H x (.lst vs)) := by
  have nx : x ∉ ι := r.fresh hx
  have ex : Ex ι H (ι ++ [x]) (upd H x (.lst vs)) := by
    refine ⟨List.prefix_append _ _, fun {a o u} e => ?_, fun a o ha e _ => ⟨fun z => ?_, ?_⟩⟩
    · rw [upd_ne (ne_of_none e hx)]; exact e
    · rcases List.mem_append.mp z with z | z
      · exact ha z
      · exact ne_of_none e hx (List.mem_singleton.mp z)
    · rw [upd_ne (ne_of_none e hx)]; exact e
  refine ⟨⟨?_, by rw [List.length_append, List.length_append, r.len]; rfl, fun i a o h1 h2 => ?_, r.tb.ext fun b o e => by rw [upd_ne (ne_of_none e hx)]; exact e⟩, ex⟩
  · exact List.nodup_append.mpr ⟨r.nd, by simp, fun a ha b hb => by rw [List.mem_singleton.mp hb]; exact fun z => nx (z ▸ ha)⟩
  · by_cases hi : i < ι.length
    · rw [List.getElem?_append_left hi] at h1
      rw [List.getElem?_append_left (by rw [← r.len]; exact hi)] at h2
      have q := r.ok i a o h1 h2
      obtain ⟨u, eu⟩ := r.tracked (List.mem_of_getElem? h1)
      exact q.ex ex (by rw [upd_ne (ne_of_none eu hx)])
    · have e : i = ι.length := by
        have := (List.getElem?_eq_some_iff.mp h1).1
        rw [List.length_append] at this
        simp at this
        omega
      subst e
      rw [List.getElem?_append_right (Nat.le_refl _)] at h1
      rw [List.getElem?_append_right (by rw [r.len]; exact Nat.le_refl _)] at h2
      have e1 : x = a := by simpa using h1
      have e2 : MO.lst ws = o := by simpa [r.len] using h2
      subst e1
      subst e2
      exact ⟨vs, upd_same, d.ex ex⟩

/-! ### targets -/
def Tg.ix : Tg → List Nat
  | .nm i => [i]
  | .tp l => l
theorem tg_ok {K : PySem.W.Frag} (hk : K = G.K) {t : Tg} {v : V} {w : Tn.W} {e' : Env} {Q : L2.St → Hp → Prop} (h : setT t w e = some e') (d : DenW G ι H v w) (er : ERel G ι H σ e)
    (q : ∀ σ', ERel G ι H σ' e' → (∀ vs, (∀ i ∈ t.ix, i ∈ vs) → L2.wipe σ' vs = L2.wipe σ vs) → Q σ' H) : gTg K t v σ H Q := by
  cases t with
  | nm i =>
    cases h
    exact q _ (er.set i d) fun vs hv => wipe_set (hv i (by simp [Tg.ix]))
  | tp l =>
    cases w with
    | d x =>
      cases x with
      | tup ds =>
        simp only [setT] at h
        by_cases hl : ds.length = l.length
        · rw [if_pos hl] at h
          cases h
          cases d with
          | tup r dl =>
            have r1 := r.sq
            rw [← hk] at r1
            exact .inl ⟨_, _, rfl, r1, dl.length.trans hl, names_ok hl.symm dl er q⟩
        · rw [if_neg hl] at h
          cases h
      | lst ds =>
        simp only [setT] at h
        by_cases hl : ds.length = l.length
        · rw [if_pos hl] at h
          cases h
          cases d with
          | lst r e1 dl => exact .inr ⟨_, _, rfl, .of e1, dl.length.trans hl, names_ok hl.symm dl er q⟩
        · rw [if_neg hl] at h
          cases h
      | _ => cases h
    | _ => cases h

/-! ### [.. for .. in .. if ..] -/
theorem bind_ok {α β : Type} {f : M α} {g : α → M β} {m m1 : Mu} {a : α} (h : f m = .ok a m1) : (f.bind g) m = g a m1 := by
  unfold M.bind
  rw [h]
theorem bind_exc {α β : Type} {f : M α} {g : α → M β} {m m1 : Mu} {c : Nat} {x : D} (h : f m = .exc c x m1) : (f.bind g) m = .exc c x m1 := by
  unfold M.bind
  rw [h]
theorem bind_stuck {α β : Type} {f : M α} {g : α → M β} {m : Mu} (h : f m = .stuck) : (f.bind g) m = .stuck := by
  unfold M.bind
  rw [h]
theorem pts_no {X : Cx} {W : WX} : PTs X [] (tMB G W fun _ => M.ret true) := ⟨fun pins s σ H Q I ⟨ι, e, m, r, er, h⟩ => pts_nil.run pins s σ H Q I (h _ ι H Ex.refl r rfl)⟩
def lcF (t : Tg) (own : List Nat) (fb : Env → M Bool) (fe : Env → M Tn.W) (e : Env) (w : Tn.W) : M (Option D) := match setT t w (wipeE e own) with
  | some e1 => (fb e1).bind fun k => match k with
    | true => datM (fe e1)
    | false => M.ret none
  | none => M.no
theorem lc_reads (cx : Cok G P C X W n) {t : Tg} {own : List (Str × Nat)} {fi : Env → M (List Tn.W)} {fb : Env → M Bool} {fe : Env → M Tn.W} (ht : ∀ i ∈ t.ix, i ∈ own.map (·.2)) :
    ∀ σ H Q, tM G W (fun e => (fi e).bind fun ws => fun m => endL m.length (goL (lcF t (own.map (·.2)) fb fe e) m.length ws (m ++ [.lst []]))) σ H Q → tLc (tMI G W fi) (gTg X.K t) (tMB G (fun _ _ _ _ => False) fb) (tM G (fun _ _ _ _ => False) fe) (own.map (·.2)) σ H Q := by
  refine fun σ H Q ⟨ι, e, m, r, er, h⟩ => ⟨ι, e, m, r, er, ?_⟩
  refine PostG.bind h fun ws m1 J ι1 H1 _ ex1 r1 it p => fun D hD => ?_
  clear h
  obtain ⟨rD, exD⟩ := r1.pushL (vs := []) (ws := []) hD trivial
  -- the walk comes to its end
  obtain ⟨mE, hE⟩ : ∃ mE, goL (lcF t (own.map (·.2)) fb fe e) m1.length ws (m1 ++ [.lst []]) = .ok () mE := by
    cases q : goL (lcF t (own.map (·.2)) fb fe e) m1.length ws (m1 ++ [.lst []]) with
    | ok u mE => exact ⟨mE, rfl⟩
    | exc _ _ _ => rw [q] at p; exact p.elim
    | stuck => rw [q] at p; exact p.elim
  rw [hE] at p
  have er1 := er.ex ex1
  refine ⟨fun i k H' => i ≤ ws.length ∧ k = ws.length - i ∧ ∃ ι' m', Ex (ι1 ++ [D]) (upd H1 D (.lst [])) ι' H' ∧ MRel G ι' H' m' ∧ goL (lcF t (own.map (·.2)) fb fe e) m1.length (ws.drop i) m' = .ok () mE, ⟨_, Nat.zero_le _, rfl, _, _, Ex.refl, rD, by simpa using hE⟩, ?_⟩
  rintro i k H2 ⟨hil, rfl, ι2, m2, ex2, r2, g2⟩
  have exA := exD.trans ex2
  have atD : ι2[m1.length]? = some D := ex2.get (by rw [← r1.len]; simp)
  by_cases hi : i < ws.length
  · refine .inr ⟨it.go i ι2 H2 m2 exA r2 hi, fun H' => ∃ ι' m', Ex (ι1 ++ [D]) (upd H1 D (.lst [])) ι' H' ∧ MRel G ι' H' m' ∧ goL (lcF t (own.map (·.2)) fb fe e) m1.length (ws.drop (i + 1)) m' = .ok () mE, fun H' ⟨ι', m', q⟩ => ⟨ws.length - (i + 1), by omega, by omega, rfl, ι', m', q⟩, fun x H3 hy => ?_⟩
    obtain ⟨w, ew, ex3, r3, dx⟩ := it.yld i ι2 H2 m2 x H3 exA r2 hi hy
    have dr : ws.drop i = w :: ws.drop (i + 1) := by
      rw [List.drop_eq_getElem_cons hi]
      congr 1
      have := (List.getElem?_eq_some_iff.mp ew).2
      exact this
    rw [dr] at g2
    have g3 : ((lcF t (own.map (·.2)) fb fe e w).bind fun o => match o with
      | some d => (pushA m1.length d).bind fun _ => goL (lcF t (own.map (·.2)) fb fe e) m1.length (ws.drop (i + 1))
      | none => goL (lcF t (own.map (·.2)) fb fe e) m1.length (ws.drop (i + 1))) m2 = .ok () mE := g2
    cases es : setT t w (wipeE e (own.map (·.2))) with
    | none =>
      have hw : lcF t (own.map (·.2)) fb fe e w = M.no := by
        unfold lcF
        rw [es]
      rw [hw] at g3
      cases g3
    | some e1 =>
      have hw : lcF t (own.map (·.2)) fb fe e w = (fb e1).bind fun k => match k with
          | true => datM (fe e1)
          | false => M.ret none := by
        unfold lcF
        rw [es]
      rw [hw, bind_assoc] at g3
      refine tg_ok cx.k es dx ((((er1.ex exA).ex ex3)).wip _) fun σ' er' hw => ⟨(hw _ ht).trans ?_, ι2, e1, m2, r3, er', ?_⟩
      · -- wiped twice
        apply List.ext_getElem?
        intro j
        by_cases hj : j ∈ own.map (·.2)
        · have key : ∀ τ : L2.St, τ.length = σ.length → (L2.wipe τ (own.map (·.2)))[j]? = if j < σ.length then some none else none := fun τ hl => by
            by_cases hl2 : j < σ.length
            · rw [if_pos hl2]
              have hlt : j < (L2.wipe τ (own.map (·.2))).length := by rw [L2.wipe_length, hl]; exact hl2
              rw [List.getElem?_eq_getElem hlt]
              cases q : (L2.wipe τ (own.map (·.2)))[j] with
              | none => rfl
              | some x => exact absurd hj (L2.wipe_some (by rw [List.getElem?_eq_getElem hlt, q])).2
            · rw [if_neg hl2]
              exact List.getElem?_eq_none (by rw [L2.wipe_length, hl]; omega)
          rw [key _ (L2.wipe_length _ _), key _ rfl]
        · rw [L2.wipe_out hj]
      · cases eb : fb e1 m2 with
        | stuck => rw [bind_stuck eb] at g3; cases g3
        | exc _ _ _ => rw [bind_exc eb] at g3; cases g3
        | ok k m3 =>
          intro k' ι4 H4 ex4 r4 ek
          subst ek
          rw [bind_ok eb] at g3
          have exB := (ex2.trans ex3).trans ex4
          cases k' with
          | false => exact ite_ff ⟨ι4, m3, exB, r4, g3⟩
          | true =>
            refine ite_tt ⟨ι4, e1, m3, r4, er'.ex ex4, ?_⟩
            simp only [datM] at g3
            rw [bind_assoc] at g3
            cases ee : fe e1 m3 with
            | stuck => rw [bind_stuck ee] at g3; cases g3
            | exc _ _ _ => rw [bind_exc ee] at g3; cases g3
            | ok y m5 =>
              intro v ι5 H5 ex5 r5 dv
              cases y with
              | d q =>
                rw [bind_ok ee] at g3
                have g5 := g3
                have atD5 : ι5[m1.length]? = some D := (ex4.trans ex5).get atD
                simp only [ret_bind] at g5
                cases em : m5[m1.length]? with
                | none =>
                  rw [bind_stuck (show pushA m1.length q m5 = .stuck by unfold pushA; rw [em])] at g5
                  cases g5
                | some o =>
                  cases o with
                  | lst l =>
                    cases el : decide (l.length < strTop) with
                    | false =>
                      rw [bind_stuck (show pushA m1.length q m5 = .stuck by unfold pushA; rw [em]; simp only [el]; rfl)] at g5
                      cases g5
                    | true =>
                      rw [bind_ok (show pushA m1.length q m5 = .ok () (m5.set m1.length (.lst (l ++ [.d q]))) by unfold pushA; rw [em]; simp only [el]; rfl)] at g5
                      obtain ⟨vs, e6, d6⟩ := r5.ok _ _ _ atD5 em
                      have sz := strTop_le
                      have el := of_decide_eq_true el
                      have mD : D ∈ ι5 := List.mem_of_getElem? atD5
                      have exW : Ex ι5 H5 ι5 (upd H5 D (.lst (vs ++ [v]))) := Ex.write mD (r5.nofrz mD)
                      refine ⟨vs, e6, by rw [d6.length]; omega, ι5, m5.set m1.length (.lst (l ++ [.d q])), (exB.trans ex5).trans exW, r5.write atD5 ⟨vs ++ [v], upd_same, ?_⟩, g5⟩
                      exact (d6.ex exW).append ⟨DenW.ex exW dv, trivial⟩
                  | dic _ =>
                    rw [bind_stuck (show pushA m1.length q m5 = .stuck by unfold pushA; rw [em])] at g5
                    cases g5
                  | ins _ _ =>
                    rw [bind_stuck (show pushA m1.length q m5 = .stuck by unfold pushA; rw [em])] at g5
                    cases g5
              | _ => rw [bind_ok ee] at g3; cases g3
  · have e0 : i = ws.length := by omega
    subst e0
    rw [List.drop_length] at g2
    cases g2
    refine .inl ⟨it.stop _ ι2 H2 mE exA r2 (Nat.le_refl _), ?_⟩
    simp only [endL] at p
    cases em : mE[m1.length]? with
    | none => rw [em] at p; exact p.elim
    | some o =>
      rw [em] at p
      cases o with
      | lst l =>
        cases ec : cutMu m1.length mE with
        | none => rw [ec] at p; exact p.elim
        | some m9 =>
          rw [ec] at p
          simp only at p
          cases ed : datOf l with
          | none => rw [ed] at p; exact p.elim
          | some ds =>
            rw [ed] at p
            obtain ⟨vs, e6, d6⟩ := r2.ok _ _ _ atD em
            have tk : ι2.take m1.length = ι1 := by rw [← r1.len]; exact exA.take
            have z := r2.cut ec
            rw [tk] at z
            exact p _ ι1 H2 exA.down z (Den.lst (r1.fresh hD) e6 (DenL.less (fun a q => exA.pre.subset q) (d6.dat ed)))
      | _ => exact p.elim
theorem s_lc (cx : Cok G P C X W n) {t : Tg} {own : List (Str × Nat)} {scope : Scope} {elt tg iter : Expr} {ifs : List Expr} {fi : Env → M (List Tn.W)} {fb : Env → M Bool} {fe : Env → M Tn.W} (hi : PI X tg iter (tMI G W fi)) (ok : BlkOk X.N X.env.scope scope own) (ht : ∀ i ∈ t.ix, i ∈ own.map (·.2))
    (hg : ∀ (s : Shared) (H : Hp) (C : Addr) (cl : List (Str × Addr)) (fp : List Addr), PG (X.blk s H scope (compEnvC scope cl C X.env) fp) tg (gTg X.K t)) (hc : ∀ (s : Shared) (H : Hp) (C : Addr) (cl : List (Str × Addr)) (fp : List Addr), PTs (X.blk s H scope (compEnvC scope cl C X.env) fp) ifs (tMB G (fun _ _ _ _ => False) fb))
    (he : ∀ (s : Shared) (H : Hp) (C : Addr) (cl : List (Str × Addr)) (fp : List Addr), PE (X.blk s H scope (compEnvC scope cl C X.env) fp) elt (tM G (fun _ _ _ _ => False) fe)) (hs : ∀ x, foldedSetIterable iter X.env x = pure x) :
    PE X (.ListComp elt [⟨tg, iter, ifs, 0⟩] scope pos) (tM G W fun e => (fi e).bind fun ws => fun m => endL m.length (goL (lcF t (own.map (·.2)) fb fe e) m.length ws (m ++ [.lst []]))) :=
  ⟨fun pins s σ H Q I h => (pe_lc cx.calm cx.nd hi ok hg hc he hs).run pins s σ H Q I (lc_reads cx ht σ H Q h)⟩
end
end Tn

set_option Elab.async false
set_option linter.all false
set_option maxRecDepth 100000
namespace Tn
open PySem PySem.Spec PyProof.Rows L2

/-! ### what a statement's end asks -/
def PostS (G : Gl) (W : WX) (ι : List Addr) (H : Hp) (o : Out) (D : Ends) : Prop := match o with
  | .nx e m => ∀ σ' ι' H', Ex ι H ι' H' → MRel G ι' H' m → ERel G ι' H' σ' e → D.nx σ' H'
  | .rt w m => ∀ v ι' H', Ex ι H ι' H' → MRel G ι' H' m → DenW G ι' H' v w → D.rt v H'
  | .bk e m => ∀ σ' ι' H', Ex ι H ι' H' → MRel G ι' H' m → ERel G ι' H' σ' e → D.bk σ' H'
  | .ct e m => ∀ σ' ι' H', Ex ι H ι' H' → MRel G ι' H' m → ERel G ι' H' σ' e → D.ct σ' H'
  | .ex c x e m => ∀ σ' ι' H' cls dd, Ex ι H ι' H' → MRel G ι' H' m → ERel G ι' H' σ' e → ExD G ι' H' cls dd c x → W cls dd σ' H'
  | .st => False
def tX (G : Gl) (W : WX) (f : Env → Mu → Out) : TS := fun D σ H => ∃ ι e m, MRel G ι H m ∧ ERel G ι H σ e ∧ PostS G W ι H (f e m) D
section
variable {α β : Type} {R : List Addr → Hp → β → α → Prop} {G : Gl} {P : Pg} {C : Tn.Call} {X : Cx} {W : WX} {n : Nat} {pins : List (Addr × Obj)} {σ : L2.St} {H H' : Hp} {s : Shared} {ι ι' : List Addr} {m : Mu} {e : Env} {E : XK} {D : Ends}
variable {a b c : Expr} {pos p p2 apos : Pos} {fa fb fc : Env → M Tn.W} {es : List Expr} {fl fk : Env → M (List Tn.W)} {st : Stmt} {sts : List Stmt} {g h : Env → Mu → Out}
theorem PostS.later {o : Out} (x : Ex ι H ι' H') (h : PostS G W ι H o D) : PostS G W ι' H' o D := by
  cases o with
  | nx e m => exact fun σ' ι2 H2 y => h σ' ι2 H2 (x.trans y)
  | rt w m => exact fun v ι2 H2 y => h v ι2 H2 (x.trans y)
  | bk e m => exact fun σ' ι2 H2 y => h σ' ι2 H2 (x.trans y)
  | ct e m => exact fun σ' ι2 H2 y => h σ' ι2 H2 (x.trans y)
  | ex c v e m => exact fun σ' ι2 H2 cls dd y => h σ' ι2 H2 cls dd (x.trans y)
  | st => exact h
/-- an expression ahead -/
theorem ofR {f : M Tn.W} {k : Tn.W → Mu → Out} {Q : VK} (h : PostS G W ι H (Out.ofR e (f m) k) D) (er : ERel G ι H σ e)
    (hk : ∀ w m1 v ι1 H1, f m = .ok w m1 → Ex ι H ι1 H1 → MRel G ι1 H1 m1 → DenW G ι1 H1 v w → ERel G ι1 H1 σ e → PostS G W ι1 H1 (k w m1) D → Q v H1) : Post G ι H (f m) Q fun c d H' => W c d σ H' := by
  cases q : f m with
  | ok w m1 =>
    rw [q] at h
    exact fun v ι1 H1 x r d => hk w m1 v ι1 H1 q x r d (er.ex x) (PostS.later x h)
  | exc c v m1 =>
    rw [q] at h
    exact fun ι1 H1 cls dd x r d => h σ ι1 H1 cls dd x r (er.ex x) d
  | stuck =>
    rw [q] at h
    exact h
theorem ofL {f : M (List Tn.W)} {k : List Tn.W → Mu → Out} {Q : List V → Hp → Prop} (h : PostS G W ι H (match f m with | .ok ws m1 => k ws m1 | .exc c x m1 => .ex c x e m1 | .stuck => .st) D) (er : ERel G ι H σ e)
    (hk : ∀ w m1 v ι1 H1, f m = .ok w m1 → Ex ι H ι1 H1 → MRel G ι1 H1 m1 → DenWs G ι1 H1 v w → ERel G ι1 H1 σ e → PostS G W ι1 H1 (k w m1) D → Q v H1) : PostL G ι H (f m) Q fun c d H' => W c d σ H' := by
  cases q : f m with
  | ok w m1 =>
    rw [q] at h
    exact fun v ι1 H1 x r d => hk w m1 v ι1 H1 q x r d (er.ex x) (PostS.later x h)
  | exc c v m1 =>
    rw [q] at h
    exact fun ι1 H1 cls dd x r d => h σ ι1 H1 cls dd x r (er.ex x) d
  | stuck =>
    rw [q] at h
    exact h
theorem ofI {f : M (List Tn.W)} {k : List Tn.W → Mu → Out} {Q : L2.It → Hp → Prop} (h : PostS G W ι H (match f m with | .ok ws m1 => k ws m1 | .exc c x m1 => .ex c x e m1 | .stuck => .st) D) (er : ERel G ι H σ e)
    (hk : ∀ w m1 v ι1 H1, f m = .ok w m1 → Ex ι H ι1 H1 → MRel G ι1 H1 m1 → ItOk G ι1 H1 v w → ERel G ι1 H1 σ e → PostS G W ι1 H1 (k w m1) D → Q v H1) : PostG G (fun ι H J ws => ItOk G ι H J ws) ι H (f m) Q fun c d H' => W c d σ H' := by
  cases q : f m with
  | ok w m1 =>
    rw [q] at h
    exact fun v ι1 H1 x r d => hk w m1 v ι1 H1 q x r d (er.ex x) (PostS.later x h)
  | exc c v m1 =>
    rw [q] at h
    exact fun ι1 H1 cls dd x r d => h σ ι1 H1 cls dd x r (er.ex x) d
  | stuck =>
    rw [q] at h
    exact h

/-! ### rules -/
theorem x_any : PS X st (tX G W fun _ _ => .st) := ⟨fun _ _ _ _ _ _ ⟨_, _, _, _, _, h⟩ => h.elim⟩
theorem x_pass : PS X (.Pass pos) (tX G W fun e m => .nx e m) := ⟨fun pins s σ H D I ⟨ι, e, m, r, er, h⟩ => ps_pass.run pins s σ H D I (h σ ι H Ex.refl r er)⟩
theorem x_doc {x j} : PS X (.Expr (.Constant (.str x) j p) pos) (tX G W fun e m => .nx e m) := ⟨fun pins s σ H D I ⟨ι, e, m, r, er, h⟩ => ps_doc.run pins s σ H D I (h σ ι H Ex.refl r er)⟩
theorem x_brk : PS X (.Break pos) (tX G W fun e m => .bk e m) := ⟨fun pins s σ H D I ⟨ι, e, m, r, er, h⟩ => ps_break.run pins s σ H D I (h σ ι H Ex.refl r er)⟩
theorem x_cont : PS X (.Continue pos) (tX G W fun e m => .ct e m) := ⟨fun pins s σ H D I ⟨ι, e, m, r, er, h⟩ => ps_continue.run pins s σ H D I (h σ ι H Ex.refl r er)⟩
theorem x_exp (ha : PE X a (tM G W fa)) (hs : swapsWith a none pos.line X.env = pure false) : PS X (.Expr a pos) (tX G W fun e m => Out.ofR e (fa e m) fun _ m1 => .nx e m1) :=
  ⟨fun pins s σ H D I ⟨ι, e, m, r, er, h⟩ => (ps_expr ha hs).run pins s σ H D I ⟨ι, e, m, r, er, ofR h er fun w m1 v ι1 H1 _ x r1 d er1 q => q σ ι1 H1 Ex.refl r1 er1⟩⟩
theorem x_ret (ha : PE X a (tM G W fa)) : PS X (.Return (some a) pos) (tX G W fun e m => Out.ofR e (fa e m) fun w m1 => .rt w m1) :=
  ⟨fun pins s σ H D I ⟨ι, e, m, r, er, h⟩ => (ps_ret ha).run pins s σ H D I ⟨ι, e, m, r, er, ofR h er fun w m1 v ι1 H1 _ x r1 d er1 q => q v ι1 H1 Ex.refl r1 d⟩⟩
theorem x_retN : PS X (.Return none pos) (tX G W fun _ m => .rt (.d .non) m) := ⟨fun pins s σ H D I ⟨ι, e, m, r, er, h⟩ => ps_retN.run pins s σ H D I (h .non ι H Ex.refl r .non)⟩
/-- return [..], as an object -/
theorem x_rnw (hl : es.length ≤ strTop) (ha : PA X es (tML G W fl)) (hn : ∀ e m ws m1, fl e m = .ok ws m1 → ws.length = es.length) :
    PS X (.Return (some (.List es p)) pos) (tX G W fun e m => match fl e m with | .ok ws m1 => .rt (.r m1.length) (m1 ++ [.lst ws]) | .exc c x m1 => .ex c x e m1 | .stuck => .st) := by
  refine ⟨fun pins s σ H D I ⟨ι, e, m, r, er, h⟩ => (ps_ret (pe_lst ha)).run pins s σ H D I ⟨ι, e, m, r, er, ?_⟩⟩
  have sz := strTop_le
  refine ofL (k := fun ws m1 => .rt (.r m1.length) (m1 ++ [.lst ws])) h er fun ws m1 vs ι1 H1 q x r1 d er1 q2 => ⟨by rw [d.length, hn _ _ _ _ q]; omega, fun y hy => ?_⟩
  obtain ⟨r3, x3⟩ := r1.pushL hy d
  exact q2 _ _ _ x3 r3 ⟨y, by rw [← r1.len]; simp, rfl⟩
/-- name = [..], as an object -/
theorem x_new {i : Nat} {x : Str} (hN : X.N.Nodup) (hi : X.N[i]? = some x) (hx : Loc X.env.scope x) (hf : X.fn x = true ∨ X.env.scope.names.lookup x = some .local) (hl : es.length ≤ strTop) (ha : PA X es (tML G W fl)) (hn : ∀ e m ws m1, fl e m = .ok ws m1 → ws.length = es.length) :
    PS X (.Assign [.Name x p] (.List es p2) pos) (tX G W fun e m => match fl e m with | .ok ws m1 => .nx (e.set i (some (.r m1.length))) (m1 ++ [.lst ws]) | .exc c x m1 => .ex c x e m1 | .stuck => .st) := by
  refine ⟨fun pins s σ H D I ⟨ι, e, m, r, er, h⟩ => (ps_set hN hi hx (pe_lst ha) rfl hf).run pins s σ H D I ⟨ι, e, m, r, er, ?_⟩⟩
  have sz := strTop_le
  refine ofL (k := fun ws m1 => .nx (e.set i (some (.r m1.length))) (m1 ++ [.lst ws])) h er fun ws m1 vs ι1 H1 q x r1 d er1 q2 => ⟨by rw [d.length, hn _ _ _ _ q]; omega, fun y hy => ?_⟩
  obtain ⟨r3, x3⟩ := r1.pushL hy d
  exact q2 _ _ _ x3 r3 ((er1.ex x3).set i (w := .r m1.length) ⟨y, by rw [← r1.len]; simp, rfl⟩)
theorem x_asg (cx : Cok G P C X W n) {t : Tg} {tg : Expr} (ha : PE X a (tM G W fa)) (hg : PG X tg (gTg X.K t)) (hs : swapsWithSole [tg] a pos.line X.env = pure false) (hw : swappedStores [tg] a X.env = pure none) (h1 : (assignEach [tg] X.env).map (·.2) = [assign tg X.env]) :
    PS X (.Assign [tg] a pos) (tX G W fun e m => Out.ofR e (fa e m) fun w m1 => (match setT t w e with | some e1 => .nx e1 m1 | none => .st)) := by
  refine ⟨fun pins s σ H D I ⟨ι, e, m, r, er, h⟩ => (ps_asg ha hg hs hw h1).run pins s σ H D I ⟨ι, e, m, r, er, ofR h er fun w m1 v ι1 H1 _ x r1 d er1 q => ?_⟩⟩
  cases es : setT t w e with
  | none => rw [es] at q; exact q.elim
  | some e1 =>
    rw [es] at q
    exact tg_ok cx.k es d er1 fun σ' er' _ => q σ' ι1 H1 Ex.refl r1 er'
theorem x_par2 (cx : Cok G P C X W n) {i j : Nat} {x y : Str} {px py pt : Pos} {kt k2 : Nat} {pt2 : Pos} (hi : X.N[i]? = some x) (hj : X.N[j]? = some y) (hij : i ≠ j) (hx : X.env.scope.names.lookup x = some .local) (hy : X.env.scope.names.lookup y = some .local) (ha : PA X [a, b] (tML G W fl))
    (hw : swappedStores [.Tuple [.Name x px, .Name y py] kt pt] (.Tuple [a, b] k2 pt2) X.env = pure (some [x, y])) :
    PS X (.Assign [.Tuple [.Name x px, .Name y py] kt pt] (.Tuple [a, b] k2 pt2) pos) (tX G W fun e m => match fl e m with
      | .ok ws m1 => if ws.length = [i, j].length then .nx (([i, j].zip ws).foldl (fun e q => e.set q.1 (some q.2)) e) m1 else .st
      | .exc c x m1 => .ex c x e m1 | .stuck => .st) := by
  refine ⟨fun pins s σ H D I ⟨ι, e, m, r, er, h⟩ => (ps_par cx.calm cx.nd hi hj hij hx hy ha hw rfl).run pins s σ H D I ⟨ι, e, m, r, er, ?_⟩⟩
  refine ofL (k := fun ws m1 => if ws.length = [i, j].length then .nx (([i, j].zip ws).foldl (fun e q => e.set q.1 (some q.2)) e) m1 else .st) h er fun ws m1 vs ι1 H1 q x r1 d er1 q2 => ?_
  match ws, vs, d, q2 with
  | [w1, w2], [v1, v2], d, q2 => exact ⟨v1, v2, rfl, q2 _ ι1 H1 Ex.refl r1 ((er1.set i d.1).set j d.2.1)⟩
  | [], _, _, q2 => exact q2.elim
  | [_], _, _, q2 => exact q2.elim
  | _ :: _ :: _ :: _, _, _, q2 => simp only [List.length_cons, List.length_nil] at q2; rw [if_neg (by omega)] at q2; exact q2.elim
theorem x_par3 (cx : Cok G P C X W n) {i j l : Nat} {x y z : Str} {px py pz pt : Pos} {kt k2 : Nat} {pt2 : Pos} (hi : X.N[i]? = some x) (hj : X.N[j]? = some y) (hl : X.N[l]? = some z) (hij : i ≠ j) (hil : i ≠ l) (hjl : j ≠ l) (hx : X.env.scope.names.lookup x = some .local) (hy : X.env.scope.names.lookup y = some .local)
    (hz : X.env.scope.names.lookup z = some .local) (ha : PA X [a, b, c] (tML G W fl))
    (hw : swappedStores [.Tuple [.Name x px, .Name y py, .Name z pz] kt pt] (.Tuple [a, b, c] k2 pt2) X.env = pure (some [x, y, z])) :
    PS X (.Assign [.Tuple [.Name x px, .Name y py, .Name z pz] kt pt] (.Tuple [a, b, c] k2 pt2) pos) (tX G W fun e m => match fl e m with
      | .ok ws m1 => if ws.length = [i, j, l].length then .nx (([i, j, l].zip ws).foldl (fun e q => e.set q.1 (some q.2)) e) m1 else .st
      | .exc c x m1 => .ex c x e m1 | .stuck => .st) := by
  refine ⟨fun pins s σ H D I ⟨ι, e, m, r, er, h⟩ => (ps_par3 cx.calm cx.nd hi hj hl hij hil hjl hx hy hz ha hw rfl).run pins s σ H D I ⟨ι, e, m, r, er, ?_⟩⟩
  refine ofL (k := fun ws m1 => if ws.length = [i, j, l].length then .nx (([i, j, l].zip ws).foldl (fun e q => e.set q.1 (some q.2)) e) m1 else .st) h er fun ws m1 vs ι1 H1 q x r1 d er1 q2 => ?_
  match ws, vs, d, q2 with
  | [w1, w2, w3], [v1, v2, v3], d, q2 => exact ⟨v1, v2, v3, rfl, q2 _ ι1 H1 Ex.refl r1 (((er1.set i d.1).set j d.2.1).set l d.2.2.1)⟩
  | [], _, _, q2 => exact q2.elim
  | [_], _, _, q2 => exact q2.elim
  | [_, _], _, _, q2 => exact q2.elim
  | _ :: _ :: _ :: _ :: _, _, _, q2 => simp only [List.length_cons, List.length_nil] at q2; rw [if_neg (by omega)] at q2; exact q2.elim
theorem x_if {t f : List Stmt} (hc : PT X c (tMB G W fun e => (fc e).bind tru)) (ht : PSs X t (tX G W g)) (hf : PSs X f (tX G W h)) :
    PS X (.If c t f pos) (tX G W fun e m => Out.ofR e (fc e m) fun w m1 => (match truth m1 w with | some true => g e m1 | some false => h e m1 | none => .st)) := by
  refine ⟨fun pins s σ H D I ⟨ι, e, m, r, er, q⟩ => (ps_if hc ht hf).run pins s σ H D I ⟨ι, e, m, r, er, ?_⟩⟩
  have q2 : PostS G W ι H (Out.ofR e (fc e m) fun w m1 => (match truth m1 w with | some true => g e m1 | some false => h e m1 | none => .st)) D := q
  show PostB G ι H (((fc e).bind tru) m) _ _
  cases ec : fc e m with
  | stuck => rw [ec] at q2; exact q2.elim
  | exc x v m1 =>
    rw [ec] at q2
    rw [bind_exc ec]
    exact fun ι1 H1 cls dd x r d => q2 σ ι1 H1 cls dd x r (er.ex x) d
  | ok w m1 =>
    rw [ec] at q2
    rw [bind_ok ec]
    simp only [Out.ofR] at q2
    unfold tru
    cases et : truth m1 w with
    | none => rw [et] at q2; exact q2.elim
    | some k =>
      rw [et] at q2
      intro k' ι1 H1 ex1 r1 ek
      subst ek
      cases k' with
      | true => exact ite_tt ⟨ι1, e, m1, r1, er.ex ex1, q2.later ex1⟩
      | false => exact ite_ff ⟨ι1, e, m1, r1, er.ex ex1, q2.later ex1⟩
theorem xs_nil : PSs X [] (tX G W fun e m => .nx e m) := ⟨fun pins s σ H D I ⟨ι, e, m, r, er, h⟩ => pss_nil.run pins s σ H D I (h σ ι H Ex.refl r er)⟩
theorem xs_cons (h1 : PS X st (tX G W g)) (h2 : PSs X sts (tX G W h)) : PSs X (st :: sts) (tX G W fun e m => match g e m with | .nx e1 m1 => h e1 m1 | o => o) := by
  refine ⟨fun pins s σ H D I ⟨ι, e, m, r, er, q⟩ => (pss_cons h1 h2).run pins s σ H D I ⟨ι, e, m, r, er, ?_⟩⟩
  have q : PostS G W ι H (match g e m with | .nx e1 m1 => h e1 m1 | o => o) D := q
  cases eg : g e m with
  | nx e1 m1 =>
    rw [eg] at q
    exact fun σ' ι1 H1 x r1 er1 => ⟨ι1, e1, m1, r1, er1, q.later x⟩
  | rt w m1 => rw [eg] at q; exact q
  | bk w m1 => rw [eg] at q; exact q
  | ct w m1 => rw [eg] at q; exact q
  | ex c v e1 m1 => rw [eg] at q; exact q
  | st => rw [eg] at q; exact q
theorem x_for (cx : Cok G P C X W n) {t : Tg} {tg iter : Expr} {fi : Env → M (List Tn.W)} {body : List Stmt} (hp : PassesOwn (model X.prog X.w) X.A X.env X.xe) (hi : PI X tg iter (tMI G W fi)) (hg : PG X tg (gTg X.K t)) (hb : PSs X body (tX G W g)) (hs : ∀ x, foldedSetIterable iter X.env x = pure x) :
    PS X (.For tg iter body [] pos) (tX G W fun e m => match fi e m with | .ok ws m1 => forL (setT t) g ws e m1 | .exc c x m1 => .ex c x e m1 | .stuck => .st) := by
  refine ⟨fun pins s σ H D I ⟨ι, e, m, r, er, q⟩ => (ps_for hp cx.calm hi hg hb hs).run pins s σ H D I ⟨ι, e, m, r, er, ?_⟩⟩
  refine ofI (k := fun ws m1 => forL (setT t) g ws e m1) q er fun ws m1 J ι1 H1 _ x1 r1 it er1 p => ?_
  refine ⟨fun i k σ' H' => i ≤ ws.length ∧ k = ws.length - i ∧ ∃ ι' e' m', Ex ι1 H1 ι' H' ∧ MRel G ι' H' m' ∧ ERel G ι' H' σ' e' ∧ PostS G W ι' H' (forL (setT t) g (ws.drop i) e' m') D, ⟨_, Nat.zero_le _, rfl, ι1, e, m1, Ex.refl, r1, er1, by simpa using p⟩, ?_⟩
  rintro i k σ2 H2 ⟨hil, rfl, ι2, e2, m2, ex2, r2, er2, p2⟩
  by_cases hi : i < ws.length
  · refine .inr ⟨it.go i ι2 H2 m2 ex2 r2 hi, fun σ' H' => ∃ ι' e' m', Ex ι1 H1 ι' H' ∧ MRel G ι' H' m' ∧ ERel G ι' H' σ' e' ∧ PostS G W ι' H' (forL (setT t) g (ws.drop (i + 1)) e' m') D, fun σ' H' ⟨ι', e', m', q⟩ => ⟨ws.length - (i + 1), by omega, by omega, rfl, ι', e', m', q⟩, fun x H3 hy => ?_⟩
    obtain ⟨w, ew, ex3, r3, dx⟩ := it.yld i ι2 H2 m2 x H3 ex2 r2 hi hy
    have dr : ws.drop i = w :: ws.drop (i + 1) := by
      rw [List.drop_eq_getElem_cons hi]
      congr 1
      exact (List.getElem?_eq_some_iff.mp ew).2
    rw [dr] at p2
    simp only [forL] at p2
    cases es : setT t w e2 with
    | none => rw [es] at p2; exact p2.elim
    | some e3 =>
      rw [es] at p2
      simp only at p2
      refine tg_ok cx.k es dx (er2.ex ex3) fun σ' er' _ => ⟨ι2, e3, m2, r3, er', ?_⟩
      have p3 := p2.later ex3
      cases eg : g e3 m2 with
      | nx e4 m4 =>
        rw [eg] at p3
        exact fun σ5 ι5 H5 x5 r5 er5 => ⟨ι5, e4, m4, (ex2.trans ex3).trans x5, r5, er5, p3.later x5⟩
      | ct e4 m4 =>
        rw [eg] at p3
        exact fun σ5 ι5 H5 x5 r5 er5 => ⟨ι5, e4, m4, (ex2.trans ex3).trans x5, r5, er5, p3.later x5⟩
      | bk e4 m4 =>
        rw [eg] at p3
        exact fun σ5 ι5 H5 x5 r5 er5 => p3 σ5 ι5 H5 x5 r5 er5
      | rt w4 m4 => rw [eg] at p3; exact p3
      | ex c v e4 m4 => rw [eg] at p3; exact p3
      | st => rw [eg] at p3; exact p3
  · have e0 : i = ws.length := by omega
    subst e0
    rw [List.drop_length] at p2
    exact .inl ⟨it.stop _ ι2 H2 m2 ex2 r2 (Nat.le_refl _), p2 σ2 ι2 H2 Ex.refl r2 er2⟩
end
end Tn

set_option Elab.async false
set_option linter.all false
set_option maxRecDepth 100000
namespace Tn
open PySem PySem.Spec PyProof.Rows L2

section
variable {α β : Type} {R : List Addr → Hp → β → α → Prop} {G : Gl} {P : Pg} {C : Tn.Call} {X : Cx} {W : WX} {n : Nat} {pins : List (Addr × Obj)} {σ : L2.St} {H H' : Hp} {s : Shared} {ι ι' : List Addr} {m : Mu} {e : Env} {E : XK} {D : Ends}
variable {a b c : Expr} {pos p p2 apos : Pos} {fa fb fc : Env → M Tn.W} {es : List Expr} {fl fk : Env → M (List Tn.W)} {st : Stmt} {sts : List Stmt} {g h : Env → Mu → Out}
/-! ### stores into objects -/
theorem putF_len {f : Str} {v : V} : ∀ {fs : List (Str × V)}, (fs.lookup f).isSome = true → (putF f v fs).length = fs.length
  | [], h => by simp at h
  | (k, x) :: r, h => by
    unfold putF
    by_cases e : k = f
    · rw [if_pos e]; rfl
    · rw [if_neg e]
      have e2 : (f == k) = false := by simpa using fun z : f = k => e z.symm
      have h2 : (r.lookup f).isSome = true := by simpa [List.lookup, e2] using h
      simp [putF_len h2]
theorem putW_keys {f : Nat} {w : Tn.W} : ∀ {fs : List (Nat × Tn.W)}, (putW f w fs).map (·.1) = if f ∈ fs.map (·.1) then fs.map (·.1) else fs.map (·.1) ++ [f]
  | [] => by simp [putW]
  | (k, x) :: r => by
    unfold putW
    by_cases e : k = f
    · subst e
      simp
    · have e2 : ¬ f = k := fun z => e z.symm
      rw [if_neg e]
      simp only [List.map_cons, putW_keys, List.mem_cons, e2, false_or]
      by_cases h : f ∈ r.map (·.1)
      · rw [if_pos h, if_pos h]
      · rw [if_neg h, if_neg h]
        rfl
theorem putW_ok (inj : ∀ i j, G.nm i = G.nm j → i = j) {f : Nat} {w : Tn.W} {y : V} (dy : DenW G ι H y w) : ∀ {fws : List (Nat × Tn.W)} {fs : List (Str × V)} {vs : List V}, (fws.map (·.1)).Nodup → (fws.map fun q => fs.lookup (G.nm q.1)) = vs.map some → DenWs G ι H vs (fws.map (·.2)) →
    ∃ us, ((putW f w fws).map fun q => (putF (G.nm f) y fs).lookup (G.nm q.1)) = us.map some ∧ DenWs G ι H us ((putW f w fws).map (·.2))
  | [], fs, vs, _, _, _ => ⟨[y], by simp [putW, lookup_putF], dy, trivial⟩
  | (k, x) :: r, fs, [], _, e, _ => by simp at e
  | (k, x) :: r, fs, v :: vs, nd, e, d => by
    have e1 : fs.lookup (G.nm k) = some v := by simpa using congrArg List.head? e
    have e2 : (r.map fun q => fs.lookup (G.nm q.1)) = vs.map some := by simpa using congrArg List.tail e
    obtain ⟨n1, n2⟩ := List.nodup_cons.mp (show (k :: r.map (·.1)).Nodup from nd)
    unfold putW
    by_cases h : k = f
    · subst h
      rw [if_pos rfl]
      refine ⟨y :: vs, ?_, dy, d.2⟩
      simp only [List.map_cons, lookup_putF, if_pos]
      congr 1
      rw [← e2]
      refine List.map_congr_left fun q hq => ?_
      rw [if_neg fun z => n1 (by
        have e9 := inj _ _ z
        rw [← e9]
        exact List.mem_map_of_mem hq)]
    · rw [if_neg h]
      obtain ⟨us, a, b⟩ := putW_ok inj dy n2 e2 d.2
      refine ⟨v :: us, ?_, d.1, b⟩
      simp only [List.map_cons, a]
      rw [lookup_putF, if_neg fun z => h (inj _ _ z), e1]
theorem x_setf (cx : Cok G P C X W n) {f : Nat} {pos' : Pos} (ha : PE X a (tM G W fa)) (hb : PE X b (tM G W fb)) (hs : swapsWith b (some (.Attribute a (G.nm f) pos')) pos.line X.env = pure false) :
    PS X (.Assign [.Attribute a (G.nm f) pos'] b pos) (tX G W fun e m => Out.ofR e (fb e m) fun w m1 => Out.ofR e (fa e m1) fun o m2 => (match o with
      | .r i => (match m2[i]? with
        | some (.ins c fs) => (match P.cls[c]? with
          | some k => bif k.fields.contains f && decide (fs.length < 900) then .nx e (m2.set i (.ins c (putW f w fs))) else .st
          | none => .st)
        | _ => .st)
      | _ => .st)) := by
  refine ⟨fun pins s σ H D I ⟨ι, e, m, r, er, h⟩ => (ps_fld ha hb hs).run pins s σ H D I ⟨ι, e, m, r, er, ?_⟩⟩
  refine ofR h er fun w m1 y ι1 H1 _ x1 r1 dy er1 p1 => ⟨ι1, e, m1, r1, er1, ?_⟩
  refine ofR p1 er1 fun o m2 x ι2 H2 _ x2 r2 dx er2 p2 => ?_
  cases o with
  | r i =>
    obtain ⟨q, eq, rfl⟩ := dx
    simp only at p2
    cases em : m2[i]? with
    | none => rw [em] at p2; exact p2.elim
    | some mo =>
      rw [em] at p2
      cases mo with
      | ins c fws =>
        simp only at p2
        cases ec : P.cls[c]? with
        | none => rw [ec] at p2; exact p2.elim
        | some k =>
          rw [ec] at p2
          simp only at p2
          cases eb : (k.fields.contains f && decide (fws.length < 900)) with
          | false => rw [eb] at p2; exact p2.elim
          | true =>
            rw [eb] at p2
            obtain ⟨b1, b2⟩ := Bool.and_eq_true_iff.mp eb
            have b2 := of_decide_eq_true b2
            have b1 : f ∈ k.fields := by simpa using b1
            have cg := cx.good.cls c k ec
            obtain ⟨dx1, fs, vs, e1, ⟨hl, nd⟩, e2, dl, e3⟩ := r2.ok i q _ eq em
            have c0 := cg.cl
            have c1 := cg.no f b1
            rw [← cx.k] at c0 c1
            refine ⟨q, G.ca c, dx1, fs, rfl, e1, c0, c1, by omega, ?_⟩
            have mq : q ∈ ι2 := List.mem_of_getElem? eq
            have exW : Ex ι2 H2 ι2 (upd H2 q (.ins (G.ca c) dx1 (putF (G.nm f) y fs))) := Ex.write mq (r2.nofrz mq)
            obtain ⟨us, u1, u2⟩ := putW_ok cx.good.inj (dy.ex x2) (f := f) nd e2 dl
            have kk := putW_keys (f := f) (w := w) (fs := fws)
            refine p2 σ ι2 _ exW (r2.write eq ⟨dx1, _, us, upd_same, ⟨?_, ?_⟩, u1, u2.ex exW, ?_⟩) (er2.ex exW)
            · have l1 : (putW f w fws).length = ((putW f w fws).map (·.1)).length := by simp
              rw [l1, kk]
              by_cases hf : f ∈ fws.map (·.1)
              · rw [if_pos hf, List.length_map]
                obtain ⟨z, hz, ez⟩ := List.mem_map.mp hf
                obtain ⟨j, hj, ej⟩ := List.mem_iff_getElem.mp hz
                have e5 : (fws.map fun q => fs.lookup (G.nm q.1))[j]? = (vs.map some)[j]? := by rw [e2]
                have e6 : (fs.lookup (G.nm f)).isSome = true := by
                  rw [List.getElem?_map, List.getElem?_eq_getElem hj, ej] at e5
                  simp only [Option.map_some, ez] at e5
                  cases q6 : fs.lookup (G.nm f) with
                  | some _ => rfl
                  | none =>
                    rw [q6] at e5
                    rw [List.getElem?_map] at e5
                    cases q7 : vs[j]? with
                    | none => rw [q7] at e5; cases e5
                    | some _ => rw [q7] at e5; cases e5
                rw [putF_len e6]
                exact hl
              · rw [if_neg hf, List.length_append, List.length_map]
                have := length_putF (G.nm f) y fs
                simp
                omega
            · rw [kk]
              by_cases hf : f ∈ fws.map (·.1)
              · rw [if_pos hf]; exact nd
              · rw [if_neg hf]
                exact List.nodup_append.mpr ⟨nd, by simp, fun a ha b hb => by rw [List.mem_singleton.mp hb]; exact fun z => hf (z ▸ ha)⟩
            · intro f' v' hv'
              rw [lookup_putF] at hv'
              have mem : ∀ g, g ∈ (putW f w fws).map (·.1) → ∃ z ∈ putW f w fws, G.nm g = G.nm z.1 := fun g hg => by
                obtain ⟨z, hz, ez⟩ := List.mem_map.mp hg
                exact ⟨z, hz, by rw [ez]⟩
              by_cases hf' : f' = G.nm f
              · obtain ⟨z, hz, ez⟩ := mem f (by
                  rw [kk]
                  by_cases hf : f ∈ fws.map (·.1)
                  · rw [if_pos hf]; exact hf
                  · rw [if_neg hf]; simp)
                exact ⟨z, hz, by rw [hf', ez]⟩
              · rw [if_neg hf'] at hv'
                obtain ⟨z, hz, ez⟩ := e3 f' v' hv'
                obtain ⟨z2, hz2, ez2⟩ := mem z.1 (by
                  rw [kk]
                  have : z.1 ∈ fws.map (·.1) := List.mem_map_of_mem hz
                  by_cases hf : f ∈ fws.map (·.1)
                  · rw [if_pos hf]; exact this
                  · rw [if_neg hf]; exact List.mem_append_left _ this)
                exact ⟨z2, hz2, by rw [ez, ez2]⟩
      | _ => exact p2.elim
  | _ => exact p2.elim
theorem DenWs.set : ∀ {vs : List V} {ws : List Tn.W} {v : V} {w : Tn.W} (j : Nat), DenWs G ι H vs ws → DenW G ι H v w → DenWs G ι H (vs.set j v) (ws.set j w)
  | [], [], _, _, _, _, _ => trivial
  | _ :: _, _ :: _, _, _, 0, d, e => ⟨e, d.2⟩
  | _ :: _, _ :: _, _, _, j + 1, d, e => ⟨d.1, DenWs.set j d.2 e⟩
  | [], _ :: _, _, _, _, d, _ => d.elim
  | _ :: _, [], _, _, _, d, _ => d.elim
theorem x_seti (cx : Cok G P C X W n) (ha : PE X a (tM G W fa)) (hb : PE X b (tM G W fb)) (hc : PE X c (tM G W fc)) (hs : swapsWith c (some (.Subscript a b p)) pos.line X.env = pure false) (hns : ∀ x y z q, b ≠ .Slice x y z q)
    (hw : swappedStores [.Subscript a b p] c X.env = pure none) :
    PS X (.Assign [.Subscript a b p] c pos) (tX G W fun e m => Out.ofR e (fc e m) fun w m1 => Out.ofR e (fa e m1) fun o m2 => Out.ofR e (fb e m2) fun k m3 => (match o, k with
    | .r j, .d (.int n) => (match m3[j]? with
      | some (.lst l) => (match ix l.length n with
        | some p => .nx e (m3.set j (.lst (l.set p w)))
        | none => .st)
      | _ => .st)
    | _, _ => .st)) := by
  have asn : ∀ v, assign (.Subscript a b p) X.env v = (do
      let ov ← holding [v] (eval a X.env)
      let iv ← holding [v, ov] (eval b X.env)
      standAt p
      holding [v, ov, iv] (setItem ov iv v)
      release [v, ov, iv] []) := by
    intro v
    cases b <;> first | rfl | exact absurd rfl (hns _ _ _ _)
  refine ⟨fun pins s σ H D I ⟨ι, e, m, r, er, h⟩ => (ps_asg hc (pg_sub ha hb set_list asn) hs hw rfl).run pins s σ H D I ⟨ι, e, m, r, er, ?_⟩⟩
  refine ofR h er fun w m1 y ι1 H1 _ x1 r1 dy er1 p1 => ⟨ι1, e, m1, r1, er1, ?_⟩
  refine ofR p1 er1 fun o m2 x ι2 H2 _ x2 r2 dx er2 p2 => ⟨ι2, e, m2, r2, er2, ?_⟩
  refine ofR p2 er2 fun k m3 z ι3 H3 _ x3 r3 dz er3 p3 => ?_
  have dx3 := dx.ex x3
  have dy3 := (dy.ex x2).ex x3
  cases o with
  | r j =>
    cases k with
    | d q =>
      cases q with
      | int nn =>
        obtain ⟨q, eq, rfl⟩ := dx3
        cases dz
        simp only at p3
        cases em : m3[j]? with
        | none => rw [em] at p3; exact p3.elim
        | some mo =>
          rw [em] at p3
          cases mo with
          | lst l =>
            simp only at p3
            cases ei : ix l.length nn with
            | none => rw [ei] at p3; exact p3.elim
            | some pp =>
              rw [ei] at p3
              obtain ⟨vs, e1, d1⟩ := r3.ok j q _ eq em
              have mq : q ∈ ι3 := List.mem_of_getElem? eq
              have exW : Ex ι3 H3 ι3 (upd H3 q (.lst (vs.set pp y))) := Ex.write mq (r3.nofrz mq)
              refine ⟨q, vs, nn, pp, rfl, rfl, e1, by rw [d1.length]; exact ei, ?_⟩
              exact p3 σ ι3 _ exW (r3.write eq ⟨_, upd_same, (d1.ex exW).set pp (dy3.ex exW)⟩) (er3.ex exW)
          | _ => exact p3.elim
      | _ => exact p3.elim
    | _ => exact p3.elim
  | _ => exact p3.elim
end
end Tn

set_option Elab.async false
set_option linter.all false
set_option maxRecDepth 100000
set_option maxHeartbeats 1000000
namespace Tn
open PySem PySem.Spec PyProof.Rows L2

/-! ### an error's __init__ -/
theorem sup_eval {a : Expr} {f : Str} {apos pos : Pos} {e0 : Expr} {env : PySem.Env} (h2 : (apos.endLine == pos.line) = true) (h3 : nsts [e0] = true) :
    eval (.Call (.Attribute a f apos) [e0] [] pos) env = (do
      let ov ← attributeBase a f env (eval a env)
      standAt apos.atName
      let (f, first) ← holding [ov] (getMethod ov f (do return (← importBound a env).getD true))
      callWith pos f first (backTo pos (starEach [e0] env)) []) := by
  rw [arm_eval_Call]
  have hf : methodCallForm ([e0].length + ([] : List Keyword).length) (backTo pos (starEach [e0] env)) (backToKw pos (keywordEach [] env)) = true := by
    unfold methodCallForm
    have e1 : (backTo pos (starEach [e0] env)).all (!·.1) = true := by
      have := star_any (pos := pos) (env := env) h3
      rw [List.any_eq_false] at this
      rw [List.all_eq_true]
      intro q hq
      have := this q hq
      simpa using this
    rw [e1]
    rfl
  unfold methodCall
  rw [hf]
  unfold methodCallPos calleeOf
  simp only [h2]
  rfl
end Tn

set_option Elab.async false
set_option linter.all false
set_option maxRecDepth 100000
set_option maxHeartbeats 1000000
namespace Tn
open PySem PySem.Spec PyProof.Rows L2

section
variable {prog : Program} {w : World} {A : Around} {s : Shared} {G : Gl} {C x t0 : Addr} {u : Value} {mg mb : Str → Option Value} {R : Result → Shared → Prop}
theorem err_run {cd : ClassData} (M : ErrMk G C) (kin : G.K.In s.heap) (hns : s.heap.Ns mainGlobals mg) (hb : s.heap.Ns builtinsNs mb) (hbb : ∀ y : Str, y ≠ "__name__" → mb y = bootBuiltins y) (lim : s.heap.NoLimit) (room : A.depth < recursionLimit)
    (pf : (prog.main.file : Str) = G.file ∧ (prog.main.scope.names.lookup ("super" : Str)).isSome = false) (hx : s.heap.get? x = some (HandSPX.excO C t0)) (xk : G.K.lookup x = none) (hcd : PySem.W.clsIn G.K C = some cd) (hmr : HandSPX.refsVE cd.mro = true) (hh : cd.hasDict = true)
    (kx : PySem.W.excInitIn G.K C PySem.HandSPX.veTail "ValueError.__new__" = true) (sa : PySem.W.findIn G.K (.ref C) "__setattr__" = some (some (.builtin "object.__setattr__"))) (no : PySem.W.findIn G.K (.ref C) "value" = some none) :
    ∃ fI, PySem.W.findIn G.K (.ref C) "__init__" = some (some (.ref fI)) ∧ PySem.W.typeIn G.K (.ref fI) = some (.type "function") ∧
      ((∀ h' tk dx t1, (∀ b o, b ≠ x → s.heap.get? b = some o → h'.get? b = some o) → s.heap.objs.size ≤ dx → dx ≠ x → h'.get? x = some { cls := .ref C, dict := some dx, data := .fields #[.ref t1, .none, .none, .none, .bool false, .none] } →
        h'.Ns1 dx (fun y => if y = "value" then some u else none) → R (.ok (.ret .none)) { s with heap := h', toks := tk }) → codeAny (model prog w) A (.call (.ref fI) ⟨[.ref x, u], []⟩) R s) := by
  obtain ⟨fI, cda, cc, D, name, qual, params, scope, dV, kV, doc, pm, ct, oc, ccl, cl, an, od, cdd, cld, osl, ccs, csl, vs, tf, cdD, ar, p0, p1, p2, p3, p4, p5, p6, p7, p8, p9, ⟨a1, a2, a3, a4⟩, hbind, ⟨b1, b2, b3, b4, b5, b6, b7, b8, b9, b10, b11⟩, ⟨c1, c2, c3, c4, c5, c6⟩, d1, d2, d3⟩ := M.ex
  refine ⟨fI, a1, a2, fun hq => ?_⟩
  obtain ⟨nm0, N0, qn0, bs0, bm0, hd0, sn0, sub0, ab0, col0, dd0, k00, k01, k02, k03, k05, hC0, hT0⟩ := PySem.W.excInit_of kin kx
  have hxC : x ≠ C := fun z => by
    rw [z, hC0] at hx
    cases hx
  refine ks_codeAny_call_defAt (fd := PySem.W.ksFn name qual params (errBody p0 p1 p2 p3 p4 p5 p6 p7 p8 p9) scope dV kV doc pm an (.ref cda) ct cc) room (kin _ _ a3) rfl lim (PySem.W.codeRec_of kin a4) rfl (hbind s _ _ kin) b7 (fun y hy => ?_) (fun h1 hL k1 => ?_) b9 b10 b8
  · rcases List.mem_cons.mp hy with rfl | hy
    · exact b3
    · rcases List.mem_cons.mp hy with rfl | hy
      · exact b4
      · cases hy
  have kin1 : G.K.In h1 := kin.keeps k1
  have hx1 := k1 _ _ hx
  obtain ⟨oD, hD1, hD2⟩ : ∃ oD, h1.get? D = some oD ∧ oD.data = .cls cdD := by
    unfold PySem.W.clsIn at c4
    split at c4
    · rename_i q1 q2 q3 q4 hl
      cases c4
      exact ⟨_, kin1 _ _ hl, rfl⟩
    · cases c4
  have lv : ([(("self" : Str), Value.ref x), (("value" : Str), u)].reverse.lookup ("self" : Str)) = some (Value.ref x) := rfl
  have lv2 : ([(("self" : Str), Value.ref x), (("value" : Str), u)].reverse.lookup ("value" : Str)) = some u := rfl
  refine ks_wpAt_execs_cons (ks_wpAt_Expr_any (ks_wpAt_MethodCall ?_ (sup_eval b11 rfl)) (by unfold interactive; show (scope.kind == ScopeKind.module && _) = false; rw [b8]; rfl) rfl)
  refine ks_wpAt_super_base (f := fI) (cc := cda) (ar := ar) b5 b6 rfl rfl (kin1 _ _ a3) rfl b1 rfl (kin1 _ _ c1) rfl c2 (by rw [pf.1]; simp) pf.2 ?_
  refine PySem.W.ks_loadName_global b8 b5 (Calls.loadGlobal_builtin (hns.keeps k1) (PySem.W.mg_none_of kin hns c6) (hb.keeps k1) ((hbb _ (by decide +kernel)).trans rfl) ⟨rfl, ?_⟩)
  refine wpAny_loadName_free b8 b6 rfl ⟨_, kin1 _ _ c3, rfl⟩ ?_
  rw [b2]
  refine wpAny_loadName_local b8 b3 hL lv ?_
  refine ks_wpAny_isType_cls hD1 hD2 ⟨rfl, ?_⟩
  refine ks_wpAny_call_super hD1 hD2 hx1 rfl (fun c e => ?_) (PySem.W.looks_mroIn kin1 c5) (fun h2 e2 k2 => ?_)
  · cases e
  have hx2 := k2 _ _ hx1
  have kin2 : G.K.In h2 := kin1.keeps k2
  have I2 : PySem.W.InstAt h2 x (HandSPX.excO C t0) C none := ⟨hx2, rfl, rfl, trivial⟩
  have hL2 := hL.keeps k2
  unfold PySem.W.ks_superIn at d2
  rw [hcd] at d2
  refine PySem.W.kxs_getMethod PySem.W.kxs_ValueError e2 (PySem.W.looks_opaque kin2 d1) (l₀ := cd.mro) ((PySem.W.looks_clsIn kin2 hcd).andThen .now) rfl kin2 d2 (I2.type.andThen (PySem.W.looks_subIn kin2 d3)) hxC rfl ?_
  have k3 : ∀ b o, h2.get? b = some o → (h2.push (PySem.W.kxs_mw "ValueError.__init__" x)).get? b = some o := fun b o e => Heap.get?_push_of_some _ e
  have hx3 := k3 _ _ hx2
  have hu3 : (h2.push (PySem.W.kxs_mw "ValueError.__init__" x)).get? h2.objs.size = some (PySem.W.kxs_mw "ValueError.__init__" x) := Heap.get?_push_at rfl rfl
  have hL3 := hL2.keeps k3
  refine PySem.W.kxs_callWith (i := "ValueError.__init__") (x := x) rfl (Calls.evalArgs_plain ?_)
  refine Calls.spliced_cons (wpAny_Name (wpAny_loadName_local b8 b4 hL3 lv2 ?_) (by decide))
  refine Calls.spliced_nil ⟨hu3, ?_⟩
  refine wpAny_call (codeAny_of_tree ?_)
  show wpAny _ _ (callAny (.ref h2.objs.size) ⟨[u], []⟩) _ _ _
  simp only [callAny]
  refine wpAny_bind (wpAny_load hu3 ?_)
  refine PySem.W.KFB.if_so (show (Value.type "method-wrapper" == Value.type "method" || Value.type "method-wrapper" == Value.type "builtin_function_or_method" || Value.type "method-wrapper" == Value.type "method-wrapper") = true by decide) ?_
  refine wpAny_bind (PySem.W.check_bound_init F.excBase_ValueError.toExcCallFacts (k3 _ _ (k2 _ _ (k1 _ _ hC0))) hx3 rfl ?_)
  refine wpAny_bind (wpAny_pure (wpAny_pure ⟨plainId_quiet F.excBase_ValueError.init.plain _, codeAny_builtin F.excBase_ValueError.initEntry ?_⟩))
  refine PySem.W.exc_init_tree (cls := .ref C) (t0 := t0) (dv := none) (c2 := .none) (c3 := .none) (b4 := .bool false) hx3 (by show 1 ≤ sizeLine; rw [sizeLine_eq]; omega) fun h4 k4 e4 _ => ?_
  have ne : ∀ {b : Addr} {o : Obj}, s.heap.get? b = some o → h4.get? b = some o ∨ b = x := fun {b o} e => by
    by_cases z : b = x
    · exact .inr z
    · exact .inl (k4 b o z (k3 _ _ (k2 _ _ (k1 _ _ e))))
  have kin4 : G.K.In h4 := fun b o e => by
    rcases ne (kin b o e) with q | q
    · exact q
    · rw [q, xk] at e
      cases e
  have hL4 : h4.Ns s.heap.objs.size (fun y => [(("self" : Str), Value.ref x), (("value" : Str), u)].reverse.lookup y) := by
    obtain ⟨oL, es, ep, hL', rr⟩ := hL3
    exact ⟨oL, es, ep, k4 _ _ (fun z => by rw [← z] at hx; exact absurd (Heap.lt_size hx) (Nat.lt_irrefl _)) hL', rr⟩
  refine ks_wpAt_execs_cons (ks_wpAt_Assign_Attr (wpAt_of_wpAny (wpAny_Name (wpAny_loadName_local b8 b4 hL4 lv2 ?_) (by decide))) rfl)
  refine wpAny_Name (wpAny_loadName_local b8 b3 hL4 lv ?_) (by decide)
  refine PySem.W.set_plain kin4 (ox := HandSPX.excO C (h2.push (PySem.W.kxs_mw "ValueError.__init__" x)).objs.size) (od := none) ⟨e4, rfl, rfl, trivial⟩ sa ?_
  refine PySem.HandSPX.exc_osa kin4 e4 hcd hmr hh no (fun h5 tk5 dx k5 dn dne hx5 hn5 => ?_)
  refine wpAt_of_wpAny (wpAny_execs_nil ?_)
  refine hq h5 tk5 dx _ (fun b o nb e => k5 b o nb (k4 b o nb (k3 _ _ (k2 _ _ (k1 _ _ e))))) ?_ dne hx5 hn5
  obtain ⟨oL, es, ep, q, _⟩ := hL4
  exact Nat.le_trans (Nat.le_of_lt (Heap.lt_size q)) dn
end
end Tn

set_option Elab.async false
set_option linter.all false
set_option maxRecDepth 100000
set_option maxHeartbeats 1000000
namespace Tn
open PySem PySem.Spec PyProof.Rows L2
section
variable {G : Gl} {P : Pg} {C : Tn.Call} {X : Cx} {W : WX} {n : Nat} {pins : List (Addr × Obj)} {σ : L2.St} {H : Hp} {s : Shared} {ι : List Addr} {m : Mu} {e : Env} {E : XK}
/-- an error is made: its dict holds the value; the error itself is not told of yet -/
structure Made (X : Cx) (pins : List (Addr × Obj)) (σ : L2.St) (H : Hp) (s : Shared) (C : Addr) (v : V) (a d : Addr) (s' : Shared) : Prop where
  ex : ∃ (h : Heap) (oe : Obj) (vs : Array Value), Inv X pins σ (upd H d (.xd [(("value" : Str), v)])) { s' with heap := h } ∧ (∀ b o, h.get? b = some o → s'.heap.get? b = some o) ∧ h.get? a = none ∧ s'.heap.get? a = some oe ∧ Zc (.ref C) (some d) oe ∧ oe.data = .fields vs ∧ vs[1]? = some .none
  na : H a = none
  nd : H d = none
  ne : a ≠ d
  os : s'.os = s.os
  bare : AllBare s'.gens
theorem err_call (cx : Cok G P C X W n) {c : Nat} (hc : c < P.nx) (hrm : C.rm = true) {v : V} {u : Value} (I : Inv X pins σ H s) (rv : RelV v u) : wpAny (model X.prog X.w) X.A (call (.ref (G.xa c)) [u]) (fun z s' => ∃ a d, z = .ref a ∧ Made X pins σ H s (G.xa c) v a d s') X.xe s := by
  have eg := cx.good.exc c hc
  obtain ⟨nm, q, N, bs, bm, sn, sub, ab, col, dd, k0, k1, k2, k3, k5, hC, hbm⟩ := eg.ox.cls
  have kin := cx.kin I
  obtain ⟨hp, g, dr, tk, os⟩ := s
  have kk : ∀ b o, hp.get? b = some o → ((hp.push (PySem.W.kdv_tup [u])).push (HandSPX.excO (G.xa c) hp.objs.size)).get? b = some o := fun b o e => Heap.get?_push_of_some _ (Heap.get?_push_of_some _ e)
  have hget : ((hp.push (PySem.W.kdv_tup [u])).push (HandSPX.excO (G.xa c) hp.objs.size)).get? (hp.objs.size + 1) = some (HandSPX.excO (G.xa c) hp.objs.size) := by heap_get
  have hcl : PySem.W.clsIn G.K (G.xa c) = some { name := nm, bases := bs, mro := .ref (G.xa c) :: bm, ns := N, qualname := q, hasDict := true, slotNames := sn, subclasses := sub, abstract := ab, collection := col, hasDel := false } := by unfold PySem.W.clsIn; rw [hC] <;> rfl
  obtain ⟨mb, hb1, hb2⟩ := I.mod.blt
  have hsz : hp.objs.size ≤ hp.objs.size + 1 := Nat.le_succ _
  have n0 : hp.get? (hp.objs.size + 1) = none := Heap.get?_none_of_le hsz
  have rm := (cx.room.mono (cx.rm hrm)).make (G.xa c) [u] []
  have lim : Heap.NoLimit ((hp.push (PySem.W.kdv_tup [u])).push (HandSPX.excO (G.xa c) hp.objs.size)) := I.nolimit.keeps kk
  obtain ⟨fI, f1, f2, f3⟩ := err_run (prog := X.prog) (w := X.w) (A := X.A.under (.builtin "type.__call__" ⟨.ref (G.xa c) :: [u], []⟩)) (s := ⟨(hp.push (PySem.W.kdv_tup [u])).push (HandSPX.excO (G.xa c) hp.objs.size), g, dr, tk, os⟩) (u := u) (x := hp.objs.size + 1) (t0 := hp.objs.size)
    (R := PySem.W.InitBack (hp.objs.size + 1) (fun r s' => wants (fun z s' => ∃ a d, z = .ref a ∧ Made X pins σ H ⟨hp, g, dr, tk, os⟩ (G.xa c) v a d s') X.xe r s')) eg.mkr (kin.keeps kk) ((I.mod.glob.keeps I.bk).keeps kk) ((hb1.keeps I.bk).keeps kk) hb2 lim rm.depth cx.pf hget (by
      cases z : G.K.lookup (hp.objs.size + 1) with
      | none => rfl
      | some o => rw [kin _ _ z] at n0; cases n0) hcl (show HandSPX.refsVE (.ref (G.xa c) :: bm) = true from hbm) rfl eg.kx eg.ox.sa eg.no
  refine wpAny_call (HandSPX.call_own F.excBase_ValueError (fun Y => HandSPX.refsVE_contains Y bm hbm) (kin _ _ hC) (PySem.W.looks_findIn kin f1) (fun self => PySem.W.bind_fn kin self f2) (by show 1 ≤ sizeLine; rw [sizeLine_eq]; omega) (f3 fun h' tk' dx t1 k5 dn dne hx5 hn5 => ?_))
  have k6 : ∀ b o, hp.get? b = some o → h'.get? b = some o := fun b o e => k5 b o (fun z => by rw [z, n0] at e; cases e) (kk b o e)
  obtain ⟨Gh, g1, g2⟩ := restrict h' fun b => decide (b ≠ hp.objs.size + 1)
  have gk : ∀ b, b ≠ hp.objs.size + 1 → Gh.get? b = h'.get? b := fun b hb => g1 b (decide_eq_true hb)
  have ga : Gh.get? (hp.objs.size + 1) = none := g2 _ (by simp)
  have dn2 : hp.objs.size ≤ dx := Nat.le_trans (by
    show hp.objs.size ≤ ((hp.push (PySem.W.kdv_tup [u])).push (HandSPX.excO (G.xa c) hp.objs.size)).objs.size
    rw [Heap.size_push, Heap.size_push]
    omega) dn
  have nd : hp.get? dx = none := Heap.get?_none_of_le dn2
  have hnd : H dx = none := I.hok.fresh dn2
  have hna : H (hp.objs.size + 1) = none := I.hok.fresh hsz
  refine ⟨rfl, hp.objs.size + 1, dx, rfl, ⟨Gh, _, _, ?_, fun b o e => ?_, ga, hx5, ⟨rfl, rfl⟩, rfl, rfl⟩, hna, hnd, Ne.symm dne, rfl, I.bare⟩
  · refine I.laidN (a := dx) (o := .xd [(("value" : Str), v)]) (h' := Gh) (t' := tk') (fun b o e => ?_) nd hnd ?_
    · rw [gk b (fun z => by rw [z, n0] at e; cases e)]
      exact k6 b o e
    · refine ⟨_, hn5.at fun o y => (gk dx dne).trans y, fun f => ?_⟩
      exact relO_put (fs := []) (mA := fun _ => none) rv (fun g => True.intro) f
  · by_cases hb : b = hp.objs.size + 1
    · rw [hb, ga] at e; cases e
    · rw [← gk b hb]; exact e
end
end Tn

set_option Elab.async false
set_option linter.all false
set_option maxRecDepth 100000
set_option maxHeartbeats 1000000
namespace Tn
open PySem PySem.Spec PyProof.Rows L2
section
variable {G : Gl} {P : Pg} {C : Tn.Call} {X : Cx} {W : WX} {n : Nat} {pins : List (Addr × Obj)} {σ : L2.St} {H : Hp} {s : Shared} {ι : List Addr} {m : Mu} {e : Env} {E : XK} {a : Expr} {fa : Env → M Tn.W} {p pos pos2 : Pos}
theorem raises_err (cx : Cok G P C X W n) {c : Nat} (hc : c < P.nx) : Raises X (.ref (G.xa c)) := by
  have eg := (cx.good.exc c hc).ox
  have h1 := eg.exC
  have h2 := eg.tyC
  rw [← cx.k] at h1 h2
  exact raises_own h1 h2
/-- X(a) is made -/
theorem made_err (cx : Cok G P C X W n) {c g : Nat} {te : TE} {Q : V → Hp → Prop} {K : Value → Shared → Prop} (hg : P.glo[g]? = some (.exc c)) (hgl : L2.Gl X (G.gn g)) (hd : (G.gn g == ("__debug__" : Str)) = false) (hst : nst a = true) (ha : PE X a te) (I : Inv X pins σ H s) (h : te σ H Q)
    (hrm : ∀ v H1, Q v H1 → C.rm = true) (hk : ∀ v H1 b d s1 s2, Q v H1 → Made X pins σ H1 s1 (G.xa c) v b d s2 → K (.ref b) s2) : wpAny (model X.prog X.w) X.A (eval (.Call (.Name (G.gn g) p) [a] [] pos) X.env) K X.xe s := by
  have hc := cx.good.gloX g c hg
  have gm : X.mg (G.gn g) = some (.ref (G.xa c)) := cx.good.glo g _ hg
  have eg := cx.good.exc c hc
  have kC := eg.ox.kC
  rw [← cx.k] at kC
  refine wpAny_Call_Name_kw (ld_glob I hgl gm ?_ hd)
  refine PySem.W.callWith_K (h₀ := X.base) I.ok.mod.kin kC ?_ (star_cons hst) (by rfl)
  rw [star_cons hst]
  show wpAny _ _ (spliced ((false, eval a X.env) :: backTo pos (starEach [] X.env))) _ _ s
  refine Calls.spliced_cons (thn (ha.run pins s σ H _ I h) fun u s1 ⟨v, H1, I1, r1, q1⟩ => ?_)
  refine Calls.spliced_nil ⟨I1.kIn, ?_⟩
  refine wpAny_mono (err_call cx hc (hrm v H1 q1) I1 r1) (fun z s2 hz => ?_) fun _ _ x => x
  obtain ⟨b, d, rfl, mk⟩ := hz
  exact hk v H1 b d s1 s2 q1 mk
theorem pmk_err (cx : Cok G P C X W n) {c g : Nat} {te : TE} (hg : P.glo[g]? = some (.exc c)) (hgl : L2.Gl X (G.gn g)) (hd : (G.gn g == ("__debug__" : Str)) = false) (hst : nst a = true) (ha : PE X a te) :
    PMk X (.Call (.Name (G.gn g) p) [a] [] pos) (fun σ H Q => te σ H fun v H1 => C.rm = true ∧ ∀ d, H1 d = none → Q (.ref (G.xa c)) (some d) (upd H1 d (.xd [(("value" : Str), v)]))) := by
  intro pins s σ H Q I h
  refine made_err cx hg hgl hd hst ha I h (fun _ _ q => q.1) fun v H1 b d s1 s2 q mk => ?_
  obtain ⟨hh, oe, vs, J, k, hn, ho, hz, hd1, h1⟩ := mk.ex
  refine ⟨b, oe, vs, { s2 with heap := hh }, _, _, _, rfl, J, k, hn, ho, hz, hd1, h1, ?_, rfl, mk.bare, raises_err cx (cx.good.gloX g c hg), q.2 d mk.nd⟩
  rw [upd_ne mk.ne]
  exact mk.na
theorem x_raise (cx : Cok G P C X W n) {g : Nat} {c : Nat} (hg : P.glo[g]? = some (.exc c)) (hgl : L2.Gl X (G.gn g)) (hd : (G.gn g == ("__debug__" : Str)) = false) (hst : nst a = true) (ha : PE X a (tM G W fa)) :
    PS X (.Raise (some (.Call (.Name (G.gn g) p) [a] [] pos)) none pos2) (tX G W fun e m => Out.ofR e (fa e m) fun w m1 => (match C.rm, w, P.glo[g]? with
      | true, .d v, some (.exc x) => .ex x v e m1
      | _, _, _ => .st)) := by
  refine ⟨fun pins s σ H D I ⟨ι, e, m, r, er, h⟩ => (ps_raise cx.calm cx.tk (pmk_err cx hg hgl hd hst ha)).run pins s σ H D I ⟨ι, e, m, r, er, ?_⟩⟩
  refine ofR h er fun w m1 v ι1 H1 _ x r1 dv er1 q => ?_
  rw [hg] at q
  cases hr : C.rm with
  | false => rw [hr] at q; exact q.elim
  | true =>
    rw [hr] at q
    cases w with
    | d y => exact ⟨rfl, fun d hd => q σ ι1 _ _ _ (Ex.new r1 hd) (r1.new hd) (er1.ex (Ex.new r1 hd)) ⟨rfl, d, v, rfl, r1.fresh hd, upd_same, Den.ex (Ex.new r1 hd) dv⟩⟩
    | _ => exact q.elim
/-- an error object that stands -/
theorem exV_ok {Pr : Program} {w : World} {H : Hp} {h : Heap} {b d : Addr} {cls : Value} {oe : Obj} {vs : Array Value} (e : h.get? b = some oe) (z : Zc cls (some d) oe) (hd : oe.data = .fields vs) : ObjOk Pr w H h b (ExV cls d b) :=
  ⟨⟨oe, vs, e, z.1, z.2, hd⟩, ⟨oe, e⟩, fun _ _ ⟨o, v, q, r⟩ k => ⟨o, v, k o q, r⟩⟩
theorem s_mkx (cx : Cok G P C X W n) {g : Nat} {c : Nat} (hg : P.glo[g]? = some (.exc c)) (hgl : L2.Gl X (G.gn g)) (hd : (G.gn g == ("__debug__" : Str)) = false) (hst : nst a = true) (ha : PE X a (tM G W fa)) :
    PE X (.Call (.Name (G.gn g) p) [a] [] pos) (tM G W fun e => (fa e).bind fun x => (match C.rm, P.glo[g]?, x with
      | true, some (.exc c), .d v => M.ret (.d (.exn c v))
      | _, _, _ => M.no)) := by
  refine ⟨fun pins s σ H Q I ⟨ι, e, m, r, er, h⟩ => ?_⟩
  refine made_err cx hg hgl hd hst ha (Q := fun v H1 => C.rm = true ∧ ∃ ι1 m1 y, MRel G ι1 H1 m1 ∧ Den G ι1 H1 v y ∧ Post G ι1 H1 (.ok (.d (.exn c y)) m1) Q fun c d H' => W c d σ H') I ⟨ι, e, m, r, er, ?_⟩ (fun _ _ q => q.1) fun v H1 b d s1 s2 q mk => ?_
  · refine PostG.bind h fun w m1 v ι1 H1 _ x r1 dv q => ?_
    rw [hg] at q
    cases hr : C.rm with
    | false => rw [hr] at q; exact q.elim
    | true =>
      rw [hr] at q
      cases w with
      | d y => exact ⟨rfl, ι1, m1, y, r1, dv, q⟩
      | _ => exact q.elim
  · obtain ⟨_, ι1, m1, y, r1, dv, q⟩ := q
    obtain ⟨hh, oe, vs, J, k, hn, ho, hz, hd1, h1⟩ := mk.ex
    have e1 := Ex.new (o := .xd [(("value" : Str), v)]) r1 mk.nd
    have r2 := r1.new (o := .xd [(("value" : Str), v)]) mk.nd
    have nb : upd H1 d (.xd [(("value" : Str), v)]) b = none := by rw [upd_ne mk.ne]; exact mk.na
    have e2 := Ex.new (o := ExV (.ref (G.xa c)) d b) r2 nb
    have J2 := J.laidN (a := b) (o := ExV (.ref (G.xa c)) d b) (h' := s2.heap) (t' := s2.toks) k hn nb (exV_ok ho hz hd1)
    refine ⟨.ref b, _, J2, rfl, q _ ι1 _ (e1.trans e2) (r2.new nb) (Den.exn (r1.fresh mk.na) (r1.fresh mk.nd) upd_same ?_ ((dv.ex e1).ex e2))⟩
    rw [upd_ne (Ne.symm mk.ne)]
    exact upd_same
end
end Tn

set_option Elab.async false
set_option linter.all false
set_option maxRecDepth 100000
set_option maxHeartbeats 1000000
namespace Tn
open PySem PySem.Spec PyProof.Rows L2
/-! ### try: .., except x as n: .., the error kept -/
section
variable {X : Cx} {pins : List (Addr × Obj)} {σ : L2.St} {H : Hp} {s : Shared}
/-- an object that stands, new since the entry, is told of from now on -/
theorem Inv.told {b : Addr} {o : HO} (I : Inv X pins σ H s) (h0 : X.s_0.heap.get? b = none) (hn : H b = none) (ok : ObjOk X.prog X.w (upd H b o) s.heap b o) (nL : b ≠ X.env.locals) (nC : ∀ y c, X.env.cells.lookup y = some c → b ≠ c) (nP : ∀ q ∈ X.pn ++ pins, q.1 ≠ b) : Inv X pins σ (upd H b o) s := by
  have ne0 : ∀ {c : Addr} {u : Obj}, X.s_0.heap.get? c = some u → c ≠ b := fun {c u} q z => by rw [z, h0] at q; cases q
  refine ⟨I.ok, I.os, I.bare, ⟨I.base.keep, I.base.slot, fun c u q n hx => ?_, I.base.there, fun c xs q => ?_, fun c u v q => ?_, fun c ps q => ?_⟩, I.loc, I.cell, ?_, fun y c q => ?_, fun q hq => ?_, fun c u q => ?_, I.len⟩
  · rw [upd_ne (ne0 q)]
    exact I.base.free c u q n hx
  · have z := I.base.tups c xs q
    rw [upd_ne (ne_of_none z hn)]
    exact z
  · have z := I.base.frzs c u v q
    rw [upd_ne (ne_of_none z hn)]
    exact z
  · obtain ⟨more, z⟩ := I.base.tbls c ps q
    exact ⟨more, by rw [upd_ne (ne_of_none z hn)]; exact z⟩
  · rw [upd_ne (Ne.symm nL)]
    exact I.free
  · rw [upd_ne (Ne.symm (nC y c q))]
    exact I.freeC y c q
  · obtain ⟨q1, q2, q3⟩ := I.pin q hq
    exact ⟨q1, by rw [upd_ne (nP q hq)]; exact q2, q3⟩
  · by_cases hb : c = b
    · subst hb
      rw [upd_same] at q
      cases q
      exact ok
    · rw [upd_ne hb] at q
      exact (I.hok c u q).stay (fun _ _ _ z => z) (fun d z => by rw [upd_ne (ne_of_none z hn)]; exact z) fun d xs z => by rw [upd_ne (ne_of_none z hn)]; exact z
/-- the wish of a body whose except clause keeps the error -/
def wKeep (K : PySem.W.Frag) (c : Value) (i : Nat) (ts : Addr → TS) (Wout : WX) (D : Ends) : WX := fun cls d τ H =>
  ∃ b, PySem.W.exmOne K cls c = some b ∧ (b = true → ∀ a, H a = none → ∃ d0, d = some d0 ∧ ts a { nx := fun τ' H' => D.nx (τ'.set i none) (upd H' a (ExV cls d0 a)), rt := fun v H' => D.rt v (upd H' a (ExV cls d0 a)), bk := fun _ _ => False, ct := fun _ _ => False } (τ.set i (some (.ref a))) H) ∧
    (b = false → Wout cls d τ H)
end
section
variable {X : Cx} {x nn : Str} {c : Value} {i : Nat} {body suite : List Stmt} {b₀ : Stmt} {np pos pos' : Pos} {tb : WX → TS} {ts : Addr → TS} {Wout : WX}
theorem ps_try_keep (hs : X.stack = X.env :: X.outer) (hf : X.env.frame = some X.env.locals) (hex : X.ex = []) (nd : X.N.Nodup) (hi : X.N[i]? = some nn) (hln : X.env.kindOf nn = some .local) (hc : Names X x c) (tk : Takes X Wout)
    (hb : ∀ (W : WX) (pn : List (Addr × Obj)) (xe : Value → Shared → Prop), Takes (X.tr pn xe) W → PassesOwn (model X.prog X.w) X.A X.env xe → PSs (X.tr pn xe) body (tb W))
    (hsu : ∀ (a : Addr) (pn : List (Addr × Obj)), PSs (X.suite a pn) (b₀ :: suite) (ts a)) :
    PS X (.Try body [.ExceptHandler (some (.Name x np)) (some nn) (b₀ :: suite) pos'] [] [] pos) (fun D σ H => tb (wKeep X.K c i ts Wout D) D σ H) := by
  refine ⟨fun pins s σ H D I h => ?_⟩
  have ok := I.ok
  have frm : X.A.frames = some (X.env :: X.outer) := by rw [ok.frames, hs]
  refine wpAny_Try_except (wpAny_mono ((hb (wKeep X.K c i ts Wout D) (X.pn ++ pins) (fun e s₁ => wpAny (model X.prog X.w) X.A (noteFrame e X.env) (fun _ s₂ => wpAny (model X.prog X.w) X.A (setFlight e none) (fun _ s₃ =>
    wpAny (model X.prog X.w) X.A (handleBy e X.env [.ExceptHandler (some (.Name x np)) (some nn) (b₀ :: suite) pos']) (SP X pins D) X.xe s₃) X.xe s₂) X.xe s₁) (fun u s' xx => ?_) PassesOwn.looking).run [] s σ H D (I.toTry _) h) (fun f s1 hsp => ?_) (fun e s1 he => he))
  · obtain ⟨a, B, sI, _, σ', H', cls, d, rfl, J0, nb, up, sky, na, os, ag, b, m1, m2, m3⟩ := xx
    have J : Inv X pins σ' H' sI := J0.ofTry ok
    refine Sky.land (M := model X.prog X.w) Zc.steady frm hf (show Sky B (X.env :: X.outer) a (Zc cls d) X.env.locals s'.heap by rw [← hs]; exact sky) fun h3 fl up3 => ?_
    have J3 : Inv X pins σ' H' { s' with heap := h3 } := J.landed nb fl.1 (up.trans up3) os ag
    obtain ⟨o3, v3, e3, z3, d3⟩ := fl.there
    have nst : a ∉ frs (X.env :: X.outer) := fun hm => by
      obtain ⟨_, o', e', hnf⟩ := fl.2.2.1.mem hm
      rw [e3] at e'
      cases e'
      exact hnf _ d3
    have nL : a ≠ X.env.locals := fun z => nst (List.mem_filterMap.mpr ⟨X.env, List.mem_cons_self, by rw [hf, z]⟩)
    have nF : a ∉ X.fs := fun hm => by
      obtain ⟨e, he, q⟩ := List.mem_filterMap.mp hm
      exact nst (List.mem_filterMap.mpr ⟨e, List.mem_cons_of_mem _ he, q⟩)
    have n0 : X.s_0.heap.get? a = none := by
      cases q : X.s_0.heap.get? a with
      | none => rfl
      | some o =>
        obtain ⟨o', q2⟩ := J.base.there a o q (by rw [hex]; exact fun z => nomatch z)
        have q3 := nb a o' q2 (by rw [hs]; exact nst)
        rw [fl.2.1] at q3
        cases q3
    have nC : ∀ {h4 : Heap} {o4 : Obj} {v4 : Array Value} {τ : L2.St} {H4 : Hp} {s4 : Shared}, s4.heap.get? a = some o4 → o4.data = .fields v4 → Inv X pins τ H4 s4 → ∀ y cc, X.env.cells.lookup y = some cc → a ≠ cc := fun e4 dd I4 y cc hy z => by
      obtain ⟨v, o, q1, q2⟩ := I4.cell y cc hy
      rw [← z, e4] at q1
      cases q1
      rw [dd] at q2
      cases q2
    have S3 := J3.suite e3 d3 na nL nF
    refine wpAny_handleBy_cons (codeAny_handlers_test ?_) (by intro q; cases q)
    have LM := PySem.W.exm_one (M := model X.prog X.w) (J3.kIn) (show PySem.W.Looks (model X.prog X.w) h3 (typeOf (.ref a)) cls from fun A Q E s k q => wpAny_typeOf_ref (k _ _ e3) (by rw [z3.1]; exact q)) m1
    have tst : ∀ {Q : Value → Shared → Prop} {E : Value → Shared → Prop}, Q c { s' with heap := h3 } → wpAny (model X.prog X.w) (X.A.mark (some (.ref a))) (eval (.Name x np) X.env) Q E { s' with heap := h3 } := fun {Q E} q => by
      obtain ⟨g1, g2, g3 | ⟨g3, g4, g5⟩⟩ := hc
      · exact ld_glob (X := X.suite a ((a, o3) :: (X.pn ++ pins))) S3 g1 g3 q g2
      · exact ld_blt (X := X.suite a ((a, o3) :: (X.pn ++ pins))) S3 g1 g3 g4 q g5 g2
    refine tst (LM.here ?_)
    cases b with
    | false =>
      refine wpAny_handleBy_nil ?_
      obtain ⟨_, _, _, oe, vs, T, oT, ts', q1, q2, q3, q4, _⟩ := id fl
      unfold PySem.passOn
      refine wpAny_bind (wpAny_field q1 q3 q4 ?_)
      rw [if_neg (show ¬ ((Value.ref T == Value.none) = true) from by simp)]
      have fin : wpAny (model X.prog X.w) X.A (setFlight (.ref a) X.env.frame) (fun _ s4 => wpAny (model X.prog X.w) X.A (throw (.ref a) : Sem Flow) (SP X pins D) X.xe s4) X.xe { s' with heap := h3 } := by
        rw [hf]
        refine HandSPX.setFlight_upZ fl fun h4 hh4 up4 => wpAny_throw (tk _ _ ⟨a, B, sI, pins, σ', H', cls, d, rfl, J, nb, (up.trans up3).trans up4, .inr (.inr (by rw [hs]; exact hh4)), na, os, ag, m3 rfl⟩)
      first
        | exact wpAny_bind (wpAny_pure (wpAny_bind fin))
        | exact wpAny_bind fin
    | true =>
      refine codeAny_handlers_suite_as (HandSPX.lands_againZ fl fun h4 fl4 up4 => ?_)
      have J4 : Inv X pins σ' H' { s' with heap := h4 } := J.landed nb fl4.1 ((up.trans up3).trans up4) os ag
      obtain ⟨o4, v4, e4, z4, d4⟩ := fl4.there
      have S4 := J4.suite e4 d4 na nL nF
      obtain ⟨d0, ed, m4⟩ := m2 rfl a na
      subst ed
      refine store_ok (X := X.suite a ((a, o4) :: (X.pn ++ pins))) (v := .ref a) S4 nd hi (.inl hln) rfl (fun s5 S5 => ?_) (.inr hln)
      refine wpAny_mono ((hsu a ((a, o4) :: (X.pn ++ pins))).run [] s5 _ H' _ S5 m4) (fun f s6 hsp => ?_) (fun _ _ z => False.elim z)
      have fin : ∀ {σ6 : L2.St} {H6 : Hp} {Q : Shared → Prop}, Inv (X.suite a ((a, o4) :: (X.pn ++ pins))) [] σ6 H6 s6 → (∀ s7, Inv X pins (σ6.set i none) (upd H6 a (ExV cls d0 a)) s7 → Q s7) →
          wpAny (model X.prog X.w) X.A (do bindName X.env nn .none; unbindBehindTheSuite X.env nn pos') (fun _ s7 => Q s7) X.xe s6 := fun {σ6 H6 Q} S6 hq =>
        gone_ok (X := X.suite a ((a, o4) :: (X.pn ++ pins))) S6 nd hi hln fun s7 S7 => hq s7 (by
          obtain ⟨p1, p2, p3, p4, p5⟩ := S7.pin (a, o4) (by simp)
          have I7 := S7.unsuite ok
          refine Inv.told I7 n0 p2 (exV_ok p1 z4 d4) nL (nC (h4 := h4) p1 d4 I7) fun q hq z => ?_
          have q1 := (J.pin q hq).1
          rw [z] at q1
          have q3 := nb a q.2 q1 (by rw [hs]; exact nst)
          rw [fl.2.1] at q3
          cases q3)
      cases f with
      | next =>
        obtain ⟨σ6, H6, S6, q6⟩ := hsp
        exact fin S6 fun s7 J7 => ⟨_, _, J7, q6⟩
      | brk => exact hsp.elim fun _ z => z.elim fun _ z => z.2.elim
      | cont => exact hsp.elim fun _ z => z.elim fun _ z => z.2.elim
      | ret u =>
        obtain ⟨v6, σ6, H6, S6, r6, q6⟩ := hsp
        exact fin S6 fun s7 J7 => ⟨_, _, _, J7, r6, q6⟩
  · cases f with
    | next =>
      obtain ⟨σ', H', J', q⟩ := hsp
      exact wpAny_execs_nil ⟨σ', H', J'.ofTry ok, q⟩
    | brk =>
      obtain ⟨σ', H', J', q⟩ := hsp
      exact ⟨σ', H', J'.ofTry ok, q⟩
    | cont =>
      obtain ⟨σ', H', J', q⟩ := hsp
      exact ⟨σ', H', J'.ofTry ok, q⟩
    | ret u =>
      obtain ⟨v, σ', H', J', r, q⟩ := hsp
      exact ⟨v, σ', H', J'.ofTry ok, r, q⟩
end
end Tn

set_option Elab.async false
set_option linter.all false
set_option maxRecDepth 100000
set_option maxHeartbeats 1000000
namespace Tn
open PySem PySem.Spec PyProof.Rows L2
/-! ### try, by the written form -/
/-- what an error's clause does with it -/
def trH (i : Option Nat) (h : Env → Mu → Out) (c : Nat) (v : D) (e1 : Env) (m1 : Mu) : Out := match i with
      | none => h e1 m1
      | some j => (match h (e1.set j (some (.d (.exn c v)))) m1 with
        | .nx e2 m2 => .nx (e2.set j none) m2
        | .bk e2 m2 => .bk (e2.set j none) m2
        | .ct e2 m2 => .ct (e2.set j none) m2
        | o => o)
def trO (P : Pg) (g : Nat) (i : Option Nat) (b : Env → Mu → Out) (h : Env → Mu → Out) (e : Env) (m : Mu) : Out := handle P (P.exAt g) (trH i h) (b e m)
section
variable {G : Gl} {P : Pg} {C : Tn.Call} {X : Cx} {W : WX} {n : Nat} {pins : List (Addr × Obj)} {σ : L2.St} {H : Hp} {s : Shared} {ι : List Addr} {m : Mu} {e : Env} {E : XK} {body : List Stmt} {g : Nat} {fb : Env → Mu → Out} {np p1 p2 p3 pos pos' : Pos}
/-- a def's own frame -/
structure Own0 (X : Cx) : Prop where
  st : X.stack = X.env :: X.outer
  fr : X.env.frame = some X.env.locals
  ex : X.ex = []
  fn : ∀ x, X.fn x = true
theorem glX {c : Nat} (gp : GoodP G P X.mg) (hg : P.glo[g]? = some (.exc c)) (hgl : L2.Gl X (G.gn g)) (hd : (G.gn g == ("__debug__" : Str)) = false) : Names X (G.gn g) (.ref (G.xa c)) := ⟨hgl, hd, .inl (gp.glo g _ hg)⟩
/-- the way of an error out of the body -/
theorem tr_caught (cx : Cok G P C X W n) {i : Option Nat} {c : Nat} {fh : Env → Mu → Out} {DD : Ends} {ts : Addr → Value → Addr → L2.St → Hp → Prop} {W2 : WX} (hg : P.glo[g]? = some (.exc c)) (h : PostS G W ι H (trO P g i fb fh e m) DD)
    (hk : ∀ (c1 : Nat) (v : D) (e1 : Env) (m1 : Mu) (σ1 : L2.St) (ι1 : List Addr) (H1 : Hp) (d0 : Addr) (v0 : V), c1 < P.nx → MRel G ι1 H1 m1 → ERel G ι1 H1 σ1 e1 → d0 ∉ ι1 → H1 d0 = some (.xd [(("value" : Str), v0)]) → Den G ι1 H1 v0 v →
      PostS G W ι1 H1 (trH i fh c1 v e1 m1) DD → ∀ a, H1 a = none → ts a (.ref (G.xa c1)) d0 σ1 H1) (hW : ∀ cls d τ H', (∃ b, PySem.W.exmOne X.K cls (.ref (G.xa c)) = some b ∧ (b = true → ∀ a, H' a = none → ∃ d0, d = some d0 ∧ ts a cls d0 τ H') ∧ (b = false → W cls d τ H')) → W2 cls d τ H') : PostS G W2 ι H (fb e m) DD := by
  unfold trO handle at h
  cases eb : fb e m with
  | ex c1 v e1 m1 =>
    rw [eb] at h
    simp only at h
    intro σ1 ι1 H1 cls dd x1 r1 er1 dx
    obtain ⟨rfl, d0, v0, rfl, nd, e0, dv⟩ := dx
    have hx : P.exAt g = c := by unfold Pg.exAt; rw [hg]
    rw [hx] at h
    cases hc : decide (c1 < P.nx) with
    | false => rw [hc] at h; exact h.elim
    | true =>
      rw [hc] at h
      simp only [cond_true] at h
      have hlt := of_decide_eq_true hc
      have hm := cx.good.exS c1 c hlt (cx.good.gloX g c hg)
      rw [← cx.k] at hm
      refine hW _ _ _ _ ⟨_, hm, fun hb a na => ⟨d0, rfl, ?_⟩, fun hb => ?_⟩
      · have hs : P.exSub c1 c = true := hb
        rw [hs] at h
        exact hk c1 v e1 m1 σ1 ι1 H1 d0 v0 hlt r1 er1 nd e0 dv (PostS.later x1 h) a na
      · have hs : P.exSub c1 c = false := hb
        rw [hs] at h
        exact h σ1 ι1 H1 _ _ x1 r1 er1 ⟨rfl, d0, v0, rfl, nd, e0, dv⟩
  | nx e1 m1 => rw [eb] at h; exact h
  | rt w m1 => rw [eb] at h; exact h
  | bk e1 m1 => rw [eb] at h; exact h
  | ct e1 m1 => rw [eb] at h; exact h
  | st => rw [eb] at h; exact h
/-- except X as n: y = n -/
theorem x_tryAs (cx : Cok G P C X W n) (ow : Own0 X) {i j c : Nat} {nn y : Str} (hij : i ≠ j) (hg : P.glo[g]? = some (.exc c)) (hgl : L2.Gl X (G.gn g)) (hd : (G.gn g == ("__debug__" : Str)) = false) (hi : X.N[i]? = some nn) (hln : X.env.scope.names.lookup nn = some .local) (hnd : (nn == ("__debug__" : Str)) = false ∧ (nn == ("__classdict__" : Str)) = false)
    (hj : X.N[j]? = some y) (hy : X.env.scope.names.lookup y = some .local)
    (hb : ∀ (W' : WX) (pn : List (Addr × Obj)) (xe : Value → Shared → Prop), Takes (X.tr pn xe) W' → PassesOwn (model X.prog X.w) X.A X.env xe → PSs (X.tr pn xe) body (tX G W' fb)) :
    PS X (.Try body [.ExceptHandler (some (.Name (G.gn g) np)) (some nn) [.Assign [.Name y p1] (.Name nn p2) p3] pos'] [] [] pos) (tX G W (trO P g (some i) fb fun e m => match e[i]? with
      | some (some w) => .nx (e.set j (some w)) m
      | _ => .st)) := by
  refine ⟨fun pins s σ H D I ⟨ι, e, m, r, er, h⟩ => ?_⟩
  refine (ps_try_keep (i := i) (tb := fun W => tX G W fb) (ts := fun a D σ H => ∃ v, σ[i]? = some (some v) ∧ D.nx (σ.set j (some v)) H) ow.st ow.fr ow.ex cx.nd hi hln (glX cx.good hg hgl hd) cx.tk hb (fun a pn => ?_)).run pins s σ H D I ⟨ι, e, m, r, er, ?_⟩
  · have hv : Vis (X.suite a pn).env.scope nn := .inl hln
    have q := pss_one (ps_asg (X := X.suite a pn) (pos := p3) (pe_var (pos := p2) (i := i) hi hv hnd.1 hnd.2) (pg_name (pos := p1) (i := j) cx.nd hj (.inl hy) (.inr hy)))
    exact ⟨fun pins s σ H D I ⟨v, e1, e2⟩ => q.run pins s σ H D I ⟨v, e1, e2⟩⟩
  · refine tr_caught (i := some i) (ts := fun a cls d0 τ H' => ∃ v, (τ.set i (some (.ref a)))[i]? = some (some v) ∧ D.nx (((τ.set i (some (.ref a))).set j (some v)).set i none) (upd H' a (ExV cls d0 a))) cx hg h (fun c1 v e1 m1 σ1 ι1 H1 d0 v0 hlt r1 er1 nd e0 dv q a na => by
      have exN := Ex.new (o := ExV (.ref (G.xa c1)) d0 a) r1 na
      have q := q.later exN
      have nda : d0 ≠ a := ne_of_none e0 na
      have dn : DenW G ι1 (upd H1 a (ExV (.ref (G.xa c1)) d0 a)) (.ref a) (.d (.exn c1 v)) := Den.exn (r1.fresh na) nd upd_same (by rw [upd_ne nda]; exact e0) (dv.ex exN)
      by_cases hl : i < e1.length
      · have e3 : (e1.set i (some (.d (.exn c1 v))))[i]? = some (some (.d (.exn c1 v))) := List.getElem?_set_self hl
        simp only [trH, e3] at q
        refine ⟨.ref a, List.getElem?_set_self (by rw [← er1.1]; exact hl), ?_⟩
        exact q _ ι1 _ Ex.refl (r1.new na) (((((er1.ex exN).set i dn).set j dn)).unset i)
      · have e3 : (e1.set i (some (.d (.exn c1 v))))[i]? = none := List.getElem?_eq_none (by simpa using hl)
        simp only [trH, e3] at q
        exact q.elim) fun cls d τ H' z => z
/-- except X: .. -/
theorem x_tryOnly (cx : Cok G P C X W n) (ow : Own0 X) {c : Nat} {b₀ : Stmt} {suite : List Stmt} {fh : Env → Mu → Out} (hg : P.glo[g]? = some (.exc c)) (hgl : L2.Gl X (G.gn g)) (hd : (G.gn g == ("__debug__" : Str)) = false)
    (hb : ∀ (W' : WX) (pn : List (Addr × Obj)) (xe : Value → Shared → Prop), Takes (X.tr pn xe) W' → PassesOwn (model X.prog X.w) X.A X.env xe → PSs (X.tr pn xe) body (tX G W' fb)) (hsu : ∀ (a : Addr) (pn : List (Addr × Obj)), PSs (X.suite a pn) (b₀ :: suite) (tX G W fh)) :
    PS X (.Try body [.ExceptHandler (some (.Name (G.gn g) np)) none (b₀ :: suite) pos'] [] [] pos) (tX G W (trO P g none fb fh)) := by
  refine ⟨fun pins s σ H D I ⟨ι, e, m, r, er, h⟩ => ?_⟩
  refine (ps_try_only (tb := fun W => tX G W fb) (ts := fun a cls d => tX G W fh) ow.st ow.fr (glX cx.good hg hgl hd) cx.tk hb (fun a oe cls d pn _ _ => hsu a _)).run pins s σ H D I ⟨ι, e, m, r, er, ?_⟩
  refine tr_caught (i := none) (ts := fun a cls d0 τ H' => tX G W fh D τ H') cx hg h (fun c1 v e1 m1 σ1 ι1 H1 d0 v0 hlt r1 er1 nd e0 dv q a na => ⟨ι1, e1, m1, r1, er1, q⟩) fun cls d τ H' ⟨b, z1, z2, z3⟩ => ⟨b, z1, fun hb a na => ?_, z3⟩
  obtain ⟨d0, _, q⟩ := z2 hb a na
  exact q
theorem su_ret {a : Expr} {fa : Env → M Tn.W} {Y : Cx} (ha : PE Y a (tM G W fa)) : PSs Y [.Return (some a) p1] (tX G W fun e m => Out.ofR e (fa e m) fun w m1 => .rt w m1) := ⟨fun pins s σ H D I ⟨ι, e, m, r, er, h⟩ => (pss_one (ps_ret ha)).run pins s σ H D I ⟨ι, e, m, r, er, ofR h er fun w m1 v ι1 H1 _ x r1 d er1 q => q v ι1 H1 Ex.refl r1 d⟩⟩
theorem su_set {a : Expr} {fa : Env → M Tn.W} {Y : Cx} {j : Nat} {y : Str} (nd : Y.N.Nodup) (hj : Y.N[j]? = some y) (hy : Y.env.scope.names.lookup y = some .local) (ha : PE Y a (tM G W fa)) (hs : swapsWithSole [.Name y p1] a p2.line Y.env = pure false) (hw : swappedStores [.Name y p1] a Y.env = pure none) :
    PSs Y [.Assign [.Name y p1] a p2] (tX G W fun e m => Out.ofR e (fa e m) fun w m1 => .nx (e.set j (some w)) m1) :=
  ⟨fun pins s σ H D I ⟨ι, e, m, r, er, h⟩ => (pss_one (ps_asg ha (pg_name (i := j) nd hj (.inl hy) (.inr hy)) hs hw)).run pins s σ H D I ⟨ι, e, m, r, er, ofR h er fun w m1 v ι1 H1 _ x r1 d er1 q => q _ ι1 H1 Ex.refl r1 (er1.set j d)⟩⟩
end
end Tn

set_option Elab.async false
set_option linter.all false
set_option maxRecDepth 100000
set_option maxHeartbeats 1000000
namespace Tn
open PySem PySem.Spec PyProof.Rows L2
/-! ### objects that are told of for a while -/
/-- not told of: R -/
def hideR (R : List Addr) (H : Hp) : Hp := fun b => if b ∈ R then none else H b
/-- told of as by H0: R -/
def showR (R : List Addr) (H0 H : Hp) : Hp := fun b => if b ∈ R then H0 b else H b
section
variable {R : List Addr} {H H0 H' : Hp} {b : Addr}
theorem hide_in (h : b ∈ R) : hideR R H b = none := if_pos h
theorem hide_out (h : b ∉ R) : hideR R H b = H b := if_neg h
theorem show_in (h : b ∈ R) : showR R H0 H b = H0 b := if_pos h
theorem show_out (h : b ∉ R) : showR R H0 H b = H b := if_neg h
/-- as it stands: all of R -/
def CelsOn (R : List Addr) (H : Hp) : Prop := ∀ b ∈ R, ∃ oc, H b = some (CelO oc b)
theorem CelsOn.out (c : CelsOn R H) {o : HO} (e : H b = some o) (n : ∀ oc c, o ≠ CelO oc c) : b ∉ R := fun hb => by
  obtain ⟨oc, q⟩ := c b hb
  rw [e] at q
  exact n _ _ (Option.some.inj q)
theorem CelsOn.none (c : CelsOn R H) (e : H b = none) : b ∉ R := fun hb => by
  obtain ⟨oc, q⟩ := c b hb
  rw [e] at q
  cases q
end
theorem n_own {x : Addr} : ∀ o v, HO.own x ≠ .frz o v := fun _ _ z => HO.noConfusion z
section
variable {Pr : Program} {w : World} {R : List Addr} {H H' Hb : Hp} {h : Heap} {outer : List PySem.Env} {s s' : Shared} {Q Q' : VK} {E E' : XK} {r : Result}
theorem hok_hid (x : HOk Pr w H h) (c : CelsOn R H) : HOk Pr w (hideR R H) h := fun b o e => by
  by_cases hb : b ∈ R
  · rw [hide_in hb] at e; cases e
  · rw [hide_out hb] at e
    exact (x b o e).stay (fun _ _ _ q => q) (fun d q => by rw [hide_out (c.out q (cel_n n_own))]; exact q) fun d xs q => by rw [hide_out (c.out q (cel_n n_tup))]; exact q
theorem hok_shown (x : HOk Pr w H h) (c : CelsOn R Hb) (n : ∀ b ∈ R, H b = none) (g : ∀ b ∈ R, ∀ oc, Hb b = some (CelO oc b) → h.get? b = some oc) : HOk Pr w (showR R Hb H) h := fun b o e => by
  by_cases hb : b ∈ R
  · rw [show_in hb] at e
    obtain ⟨oc, q⟩ := c b hb
    rw [q] at e
    cases e
    exact ⟨g b hb oc q, oc, g b hb oc q⟩
  · rw [show_out hb] at e
    exact (x b o e).stay (fun _ _ _ q => q) (fun d q => by rw [show_out (fun z => by rw [n d z] at q; cases q)]; exact q) fun d xs q => by rw [show_out (fun z => by rw [n d z] at q; cases q)]; exact q
/-- a call that is told of more, read without -/
theorem cr_hid (n : ∀ b ∈ R, H b = none) (c : CelsOn R Hb) (eq : ∀ b, b ∉ R → Hb b = H b) (g : ∀ b ∈ R, ∀ oc, Hb b = some (CelO oc b) → s.heap.get? b = some oc) (nf : ∀ b ∈ R, b ∉ frs outer)
    (hQ : ∀ v H4, (∀ b ∈ R, H4 b = Hb b) → Q' v H4 → Q v (hideR R H4)) (hE : ∀ cls d H4, (∀ b ∈ R, H4 b = Hb b) → E' cls d H4 → E cls d (hideR R H4)) (h : CR (L2.CX Pr w) outer Pr w Hb s Q' E' r s') : CR (L2.CX Pr w) outer Pr w H s Q E r s' := by
  have ob : ∀ {b : Addr} {o : Obj}, s.heap.get? b = some o → b ∈ R → Hb b = some (CelO o b) := fun {b o} e hb => by
    obtain ⟨oc, q⟩ := c b hb
    have := g b hb oc q
    rw [e] at this
    cases this
    exact q
  cases r with
  | ok fl =>
    cases fl with
    | ret u =>
      obtain ⟨v, H4, os, bare, un, hok, rv, q⟩ := h
      have same : ∀ b ∈ R, H4 b = Hb b := fun b hb => by
        obtain ⟨oc, z⟩ := c b hb
        rw [z]
        exact un.frzs b _ _ z
      have c4 : CelsOn R H4 := fun b hb => by rw [same b hb]; exact c b hb
      refine ⟨v, hideR R H4, os, bare, ⟨fun b o e z h1 h2 => ?_, fun b o e z h1 h2 => ?_, fun b o e z h2 => ?_, un.there, fun b xs z => ?_, fun b o u z => ?_, fun b ps z => ?_⟩, hok_hid hok c4, rv, hQ v H4 same q⟩
      · by_cases hb : b ∈ R
        · exact (hok b _ ((same b hb).trans (ob e hb))).1
        · exact un.keep b o e ((eq b hb).trans z) h1 h2
      · by_cases hb : b ∈ R
        · exact absurd h1 (nf b hb)
        · exact un.slot b o e ((eq b hb).trans z) h1 h2
      · by_cases hb : b ∈ R
        · exact hide_in hb
        · rw [hide_out hb]; exact un.free b o e ((eq b hb).trans z) h2
      · have hb : b ∉ R := fun hb => by rw [n b hb] at z; cases z
        rw [hide_out hb]; exact un.tups b xs ((eq b hb).trans z)
      · have hb : b ∉ R := fun hb => by rw [n b hb] at z; cases z
        rw [hide_out hb]; exact un.frzs b o u ((eq b hb).trans z)
      · have hb : b ∉ R := fun hb => by rw [n b hb] at z; cases z
        rw [hide_out hb]; exact un.tbls b ps ((eq b hb).trans z)
    | next => exact h
    | brk => exact h
    | cont => exact h
  | error e0 =>
    obtain ⟨a, B, H4, cls, d, ea, fl, hok, ub, na, os, bare, q⟩ := h
    have same : ∀ b ∈ R, H4 b = Hb b := fun b hb => by
      obtain ⟨oc, z⟩ := c b hb
      rw [z]
      exact ub.frzs b _ _ z
    have c4 : CelsOn R H4 := fun b hb => by rw [same b hb]; exact c b hb
    refine ⟨a, B, hideR R H4, cls, d, ea, fl, hok_hid hok c4, ⟨fun b o e z h1 => ?_, ub.slot, fun b o e z => ?_, ub.there, fun b xs z => ?_, fun b o u z => ?_, fun b ps z => ?_⟩, ?_, os, bare, hE cls d H4 same q⟩
    · by_cases hb : b ∈ R
      · exact (hok b _ ((same b hb).trans (ob e hb))).1
      · exact ub.keep b o e ((eq b hb).trans z) h1
    · by_cases hb : b ∈ R
      · exact hide_in hb
      · rw [hide_out hb]; exact ub.free b o e ((eq b hb).trans z)
    · have hb : b ∉ R := fun hb => by rw [n b hb] at z; cases z
      rw [hide_out hb]; exact ub.tups b xs ((eq b hb).trans z)
    · have hb : b ∉ R := fun hb => by rw [n b hb] at z; cases z
      rw [hide_out hb]; exact ub.frzs b o u ((eq b hb).trans z)
    · have hb : b ∉ R := fun hb => by rw [n b hb] at z; cases z
      rw [hide_out hb]; exact ub.tbls b ps ((eq b hb).trans z)
    · by_cases hb : a ∈ R
      · exact hide_in hb
      · rw [hide_out hb]; exact na
/-- a call that is told of less, read with it -/
theorem cr_shown (c : CelsOn R H) (g : ∀ b ∈ R, ∀ oc, H b = some (CelO oc b) → s.heap.get? b = some oc) (nf : ∀ b ∈ R, b ∉ frs outer)
    (hQ : ∀ v H4, (∀ b ∈ R, H4 b = none) → Q' v H4 → Q v (showR R H H4)) (hE : ∀ cls d H4, (∀ b ∈ R, H4 b = none) → E' cls d H4 → E cls d (showR R H H4)) (h : CR (L2.CX Pr w) outer Pr w (hideR R H) s Q' E' r s') : CR (L2.CX Pr w) outer Pr w H s Q E r s' := by
  have at_ : ∀ b ∈ R, ∃ oc, H b = some (CelO oc b) ∧ s.heap.get? b = some oc := fun b hb => by
    obtain ⟨oc, q⟩ := c b hb
    exact ⟨oc, q, g b hb oc q⟩
  cases r with
  | ok fl =>
    cases fl with
    | ret u =>
      obtain ⟨v, H4, os, bare, un, hok, rv, q⟩ := h
      have n4 : ∀ b ∈ R, H4 b = none := fun b hb => by
        obtain ⟨oc, _, z⟩ := at_ b hb
        exact un.free b oc z (hide_in hb) (by simp)
      refine ⟨v, showR R H H4, os, bare, ⟨fun b o e z h1 h2 => ?_, fun b o e z h1 h2 => ?_, fun b o e z h2 => ?_, un.there, fun b xs z => ?_, fun b o u z => ?_, fun b ps z => ?_⟩, hok_shown hok c n4 (fun b hb oc z => ?_), rv, hQ v H4 n4 q⟩
      · exact un.keep b o e (by rw [hide_out (c.none z)]; exact z) h1 h2
      · exact un.slot b o e (by rw [hide_out (c.none z)]; exact z) h1 h2
      · rw [show_out (c.none z)]; exact un.free b o e (by rw [hide_out (c.none z)]; exact z) h2
      · have hb := c.out z (cel_n n_tup)
        rw [show_out hb]; exact un.tups b xs (by rw [hide_out hb]; exact z)
      · by_cases hb : b ∈ R
        · rw [show_in hb]; exact z
        · rw [show_out hb]; exact un.frzs b o u (by rw [hide_out hb]; exact z)
      · have hb := c.out z (cel_n n_tbl)
        rw [show_out hb]; exact un.tbls b ps (by rw [hide_out hb]; exact z)
      · exact un.keep b oc (g b hb oc z) (hide_in hb) (nf b hb) (by simp)
    | next => exact h
    | brk => exact h
    | cont => exact h
  | error e0 =>
    obtain ⟨a, B, H4, cls, d, ea, fl, hok, ub, na, os, bare, q⟩ := h
    have n4 : ∀ b ∈ R, H4 b = none := fun b hb => by
      obtain ⟨oc, _, z⟩ := at_ b hb
      exact ub.free b oc z (hide_in hb)
    have gB : ∀ b ∈ R, ∀ oc, H b = some (CelO oc b) → B.get? b = some oc := fun b hb oc z => ub.keep b oc (g b hb oc z) (hide_in hb) (nf b hb)
    refine ⟨a, B, showR R H H4, cls, d, ea, fl, hok_shown hok c n4 gB, ⟨fun b o e z h1 => ?_, ub.slot, fun b o e z => ?_, ub.there, fun b xs z => ?_, fun b o u z => ?_, fun b ps z => ?_⟩, ?_, os, bare, hE cls d H4 n4 q⟩
    · exact ub.keep b o e (by rw [hide_out (c.none z)]; exact z) h1
    · rw [show_out (c.none z)]; exact ub.free b o e (by rw [hide_out (c.none z)]; exact z)
    · have hb := c.out z (cel_n n_tup)
      rw [show_out hb]; exact ub.tups b xs (by rw [hide_out hb]; exact z)
    · by_cases hb : b ∈ R
      · rw [show_in hb]; exact z
      · rw [show_out hb]; exact ub.frzs b o u (by rw [hide_out hb]; exact z)
    · have hb := c.out z (cel_n n_tbl)
      rw [show_out hb]; exact ub.tbls b ps (by rw [hide_out hb]; exact z)
    · by_cases hb : a ∈ R
      · obtain ⟨oc, q1, q2⟩ := at_ a hb
        have := gB a hb oc q1
        rw [fl.2.1] at this
        cases this
      · rw [show_out hb]; exact na
end
end Tn

set_option Elab.async false
set_option linter.all false
set_option maxRecDepth 100000
set_option maxHeartbeats 1000000
namespace Tn
open PySem PySem.Spec PyProof.Rows L2
/-! ### a lambda is made -/
section
variable {G : Gl} {P : Pg} {C : Tn.Call} {X : Cx} {W : WX} {n : Nat} {pins : List (Addr × Obj)} {σ : L2.St} {H : Hp} {s : Shared} {ι : List Addr} {m : Mu} {e : Env}
theorem lam_made {T : List (Addr × Str)} {c tab : Addr} {params : Arguments} {body : Expr} {scope : Scope} {pos : Pos} {E : Value → Shared → Prop} {Q : Value → Shared → Prop} (I : Inv X pins σ H s) (TB : LamX.TabB X.base X.mg c tab) (hcode : X.env.code = .ref c)
    (hm : (tab, X.env.qual ++ "<lambda>") ∈ T) (hu : ∀ p ∈ T, p.1 = tab → p.2 = X.env.qual ++ "<lambda>") (hT : LamX.Tabs T H) (hdef : defaultsOf params X.env = ([], [])) (hfree : ∀ y ∈ scope.names, y.2 = .free → ∃ c, X.env.cells.lookup y.1 = some c)
    (h : ∀ (f c' : Addr) (pm ctv : Value) (H1 : Hp) (s' : Shared), Inv X pins σ H1 s' → LamX.ExtN H H1 → LamX.Tabs T H1 →
      s'.heap.get? f = some (PySem.W.kla_obj "<lambda>" (X.env.qual ++ "<lambda>") params body scope (cloFrom X.env.cells scope.names []) pm c' ctv) → H1 f = none → s.heap.objs.size ≤ f → H1 c' = some (LamX.CodeO c' (X.env.qual ++ "<lambda>")) → Q (.ref f) s') :
    wpAny (model X.prog X.w) X.A (eval (.Lambda params body scope pos) X.env) Q E s := by
  obtain ⟨ps, hP, ht, tells⟩ := hT _ hm
  have tabHere : s.heap.get? tab = some { cls := .none, data := .fields ps } := I.hok tab _ hP
  refine PySem.W.kla_eval hdef ?_
  cases found : codeAmong pos ps.toList with
  | some cv =>
    obtain ⟨c', rfl, known⟩ := tells pos cv found
    refine PySem.W.kla_makeFunctionHit (mg := X.mg) (c := c) (P := tab) (ps := ps) (closure_ok hfree) I.ok.glob (I.mod.glob.keeps I.bk) hcode (TB.code.keeps I.bk) tabHere ht found (TB.bm.keeps I.bk) fun ctv h' tk kept big => ?_
    exact h h'.objs.size c' _ ctv H _ (I.kept fun b o z => Heap.get?_push_of_some _ (kept b o z)) (LamX.ExtN.refl H) hT (Heap.get?_push_size _ rfl) (I.hok.fresh big) big known
  | none =>
    refine PySem.W.kla_makeFunction (mg := X.mg) (c := c) (P := tab) (ps := ps) (closure_ok hfree) I.ok.glob (I.mod.glob.keeps I.bk) hcode (TB.code.keeps I.bk) tabHere ht found TB.gP (TB.bm.keeps I.bk) fun c' ctv h' tk ext ge lt rec_ grown => ?_
    obtain ⟨c2, oc, vs, t, e2, g1, g2, g3⟩ := rec_
    cases e2
    have big : s.heap.objs.size ≤ h'.objs.size := Nat.le_trans ge (Nat.le_of_lt lt)
    have nc : H c' = none := I.hok.fresh ge
    have J := LamX.inv_table (t' := tk) (more := #[rawInt pos.line, rawInt pos.col, .ref c']) (h' := h'.push (PySem.W.kla_obj "<lambda>" (X.env.qual ++ "<lambda>") params body scope (cloFrom X.env.cells scope.names []) ((X.mg "__name__").getD .none) c' ctv)) I hP
      (fun b o nb z => Heap.get?_push_of_some _ (ext b o nb z)) (Heap.get?_push_of_some _ grown) ge ⟨oc, vs, t, Heap.get?_push_of_some _ g1, g2, g3⟩
    have more : LamX.ExtN H (upd (upd H tab (.tbl (ps ++ #[rawInt pos.line, rawInt pos.col, .ref c']))) c' (LamX.CodeO c' (X.env.qual ++ "<lambda>"))) := fun b o z nt => by
      have n1 : b ≠ tab := fun q => by
        rw [q, hP] at z
        exact nt ps (Option.some.inj z).symm
      rw [upd_ne (ne_of_none z nc), upd_ne n1]
      exact z
    have list : (ps ++ #[rawInt pos.line, rawInt pos.col, .ref c']).toList = ps.toList ++ [rawInt pos.line, rawInt pos.col, .ref c'] := by simp
    refine h h'.objs.size c' _ ctv _ _ J more (fun p hp => ?_) (Heap.get?_push_size _ rfl) ?_ big upd_same
    · by_cases hb : p.1 = tab
      · rw [hu p hp hb, hb]
        refine ⟨_, by rw [upd_ne (ne_of_none hP nc), upd_same], by rw [list]; exact PySem.TriplesOk_snoc _ _ _ _ ht, fun p' cv hcv => ?_⟩
        rw [list] at hcv
        rcases LamX.among_app _ ht hcv with z | z
        · obtain ⟨c0, e1, e2⟩ := tells p' cv z
          exact ⟨c0, e1, more _ _ e2 LamX.codeO_ne⟩
        · exact ⟨c', z, upd_same⟩
      · obtain ⟨ps', a1, a2, a3⟩ := hT p hp
        refine ⟨ps', by rw [upd_ne (ne_of_none a1 nc), upd_ne hb]; exact a1, a2, fun p' cv hcv => ?_⟩
        obtain ⟨c0, e1, e2⟩ := a3 p' cv hcv
        exact ⟨c0, e1, more _ _ e2 LamX.codeO_ne⟩
    · have n1 : h'.objs.size ≠ c' := Nat.ne_of_gt lt
      have n2 : h'.objs.size ≠ tab := Nat.ne_of_gt (Nat.lt_of_lt_of_le (Heap.lt_size tabHere) big)
      rw [upd_ne n1, upd_ne n2]
      exact I.hok.fresh big
/-- a call of it -/
theorem s_lcal (cx : Cok G P C X W n) {i : Nat} {x : Str} {p pos : Pos} (hN : X.N[i]? = some x) (hv : Vis X.env.scope x) (hd : (x == ("__debug__" : Str)) = false) (hcd : (x == ("__classdict__" : Str)) = false) :
    PE X (.Call (.Name x p) [] [] pos) (tM G W fun e => (M.opt ((e[i]?).bind id)).bind fun w => (match w with
      | .lam k l => fun m => bif l.all Tn.W.noL && m.all MO.noL then C.hi k l m else .stuck
      | _ => M.no)) := by
  refine ⟨fun pins s σ H Q I ⟨ι, e, m, r, er, h⟩ => ?_⟩
  obtain ⟨w, ew, h⟩ := opt_bind h
  cases e2 : e[i]? with
  | none => rw [e2] at ew; cases ew
  | some o =>
    rw [e2] at ew
    have e3 : o = some w := ew
    subst e3
    cases w with
    | d y => exact h.elim
    | r j => exact h.elim
    | lam k l =>
      obtain ⟨v, es, dv⟩ := er.2 i _ e2
      have dv2 := dv
      have h : Post G ι H (bif l.all Tn.W.noL && m.all MO.noL then C.hi k l m else .stuck) Q fun c d H' => W c d σ H' := h
      cases nl : (l.all Tn.W.noL && m.all MO.noL) with
      | false => rw [nl] at h; exact h.elim
      | true =>
      rw [nl] at h
      obtain ⟨n1, n2⟩ := Bool.and_eq_true_iff.mp nl
      simp only [DenW] at dv
      obtain ⟨f, c, q, N, pr, b, sc, cl, vs, pm, ct, rfl, _, _, hf, _⟩ := dv
      refine wpAny_Call_Name_kw (thn ((pe_var (pos := p) hN hv hd hcd).run pins s σ H (fun v H1 => v = .ref f ∧ H1 = H) I ⟨.ref f, es, rfl, rfl⟩) fun u s1 ⟨v, H1, I1, r1, ev, eH⟩ => ?_)
      subst ev
      subst eH
      obtain rfl : u = Value.ref f := r1
      refine PySem.W.callWith_F0 (first := []) ⟨_, _, _, _, (I1.hok f _ hf).1⟩ ?_
      exact wpAny_call (codeAny_mono (by
        have z := cx.hiM X.A X.stack s1 H1 ι m k l f Q (fun c d H' => W c d σ H') cx.room cx.gd
        rw [← cx.k] at z
        exact z I1.env0 r dv2 n1 n2 h) fun r s' hq => back_ok cx.tk I1 hq)
end
end Tn

set_option Elab.async false
set_option linter.all false
set_option maxRecDepth 100000
set_option maxHeartbeats 1000000
namespace Tn
open PySem PySem.Spec PyProof.Rows L2
section
variable {G : Gl} {P : Pg} {C : Tn.Call} {X : Cx} {W : WX} {n : Nat} {pins : List (Addr × Obj)} {σ : L2.St} {H H' : Hp} {s : Shared} {ι : List Addr} {m : Mu} {e : Env}
theorem MRel.kind (r : MRel G ι H m) {a : Addr} (h : a ∈ ι) : ∃ o, H a = some o ∧ (∀ ps, o ≠ .tbl ps) ∧ (∀ p, o ≠ .ext p) := by
  obtain ⟨i, hi, e⟩ := List.mem_iff_getElem.mp h
  have e1 : ι[i]? = some a := by rw [List.getElem?_eq_getElem hi, e]
  have hm : i < m.length := by rw [← r.len]; exact hi
  have q := r.ok i a _ e1 (List.getElem?_eq_getElem hm)
  cases w : m[i] with
  | lst ws => rw [w] at q; obtain ⟨vs, q, _⟩ := q; exact ⟨_, q, nofun, nofun⟩
  | dic ws => rw [w] at q; obtain ⟨vs, q, _⟩ := q; exact ⟨_, q, nofun, nofun⟩
  | ins c ws => rw [w] at q; obtain ⟨_, _, _, q, _⟩ := q; exact ⟨_, q, nofun, nofun⟩
/-- more is told of -/
theorem Ex.more (i : ∀ b o, H b = some o → H' b = some o) : Ex ι H ι H' := ⟨List.prefix_refl _, fun e => i _ _ e, fun a o h e _ => ⟨h, i _ _ e⟩⟩
theorem MRel.more (r : MRel G ι H m) (i : ∀ b o, H b = some o → H' b = some o) : MRel G ι H' m :=
  ⟨r.nd, r.len, fun j a o h1 h2 => by
    obtain ⟨u, eu, _⟩ := r.kind (List.mem_of_getElem? h1)
    exact (r.ok j a o h1 h2).ex (Ex.more i) (by rw [i _ _ eu, eu]), r.tb.ext i⟩
theorem Ex.extN (x : LamX.ExtN H H') : Ex ι H ι H' := ⟨List.prefix_refl _, fun e => x _ _ e nofun, fun a o h e n => ⟨h, x _ _ e n⟩⟩
theorem MRel.extN (r : MRel G ι H m) (x : LamX.ExtN H H') (t : LamX.Tabs G.T H') : MRel G ι H' m :=
  ⟨r.nd, r.len, fun j a o h1 h2 => by
    obtain ⟨u, eu, nt, _⟩ := r.kind (List.mem_of_getElem? h1)
    exact (r.ok j a o h1 h2).ex (Ex.extN x) (by rw [x _ _ eu nt, eu]), t⟩
theorem caps_ok (er : ERel G ι H σ e) : ∀ {caps : List Nat} {cs : List Tn.W}, capsOf e caps = some cs → ∃ vs : List V, caps.length = vs.length ∧ (∀ (i : Nat) (j : Nat) (v : V), caps[i]? = some j → vs[i]? = some v → σ[j]? = some (some v)) ∧ DenWs G ι H vs cs
  | [], cs, h => by cases h; exact ⟨[], rfl, fun i j v h => by simp at h, trivial⟩
  | j :: r, cs, h => by
    unfold capsOf at h
    cases e1 : (e[j]?).bind id with
    | none => rw [e1] at h; cases h
    | some w =>
      cases e2 : capsOf e r with
      | none => rw [e1, e2] at h; cases h
      | some l =>
        rw [e1, e2] at h
        simp only at h
        cases e3 : w.noL with
        | false => rw [e3] at h; cases h
        | true =>
          rw [e3] at h
          cases h
          obtain ⟨vs, h1, h2, h3⟩ := caps_ok er e2
          have e4 : e[j]? = some (some w) := by
            cases q : e[j]? with
            | none => rw [q] at e1; cases e1
            | some o => rw [q] at e1; exact congrArg some e1
          obtain ⟨v, es, dv⟩ := er.2 j w e4
          refine ⟨v :: vs, by simp [h1], fun i j' v' hi hv => ?_, ⟨dv, h3⟩⟩
          cases i with
          | zero =>
            have a1 : j = j' := by simpa using hi
            have a2 : v = v' := by simpa using hv
            rw [← a1, ← a2]
            exact es
          | succ i => exact h2 i j' v' (by simpa using hi) (by simpa using hv)
theorem bind_len {α : Type} {f : M (List Tn.W)} {nn : Nat} {g : List Tn.W → M α} (hn : ∀ m ws m1, f m = .ok ws m1 → ws.length = nn) : f.bind g = f.bind fun ws => if ws.length = nn then g ws else M.no := by
  funext m
  unfold M.bind
  cases q : f m with
  | ok ws m1 => simp only [if_pos (hn m ws m1 q)]
  | exc _ _ _ => rfl
  | stuck => rfl
theorem Inv.unpin {q : Addr × Obj} (I : Inv X (q :: pins) σ H s) : Inv X pins σ H s :=
  ⟨I.ok, I.os, I.bare, I.base, I.loc, I.cell, I.free, I.freeC, fun p hp => I.pin p (by
    rcases List.mem_append.mp hp with z | z
    · exact List.mem_append_left _ z
    · exact List.mem_append_right _ (List.mem_cons_of_mem _ z)), I.hok, I.len⟩
theorem Inv.topin {q : Addr × Obj} (I : Inv X pins σ H s) (h : s.heap.get? q.1 = some q.2 ∧ H q.1 = none ∧ q.1 ≠ X.env.locals ∧ q.1 ∉ X.fs ∧ ∀ v, q.2.data ≠ .cell v) : Inv X (q :: pins) σ H s :=
  ⟨I.ok, I.os, I.bare, I.base, I.loc, I.cell, I.free, I.freeC, fun p hp => by
    rcases List.mem_append.mp hp with z | z
    · exact I.pin p (List.mem_append_left _ z)
    · rcases List.mem_cons.mp z with z | z
      · rw [z]; exact h
      · exact I.pin p (List.mem_append_right _ z), I.hok, I.len⟩
/-- who makes a lambda -/
structure Mkr (G : Gl) (X : Cx) (c tab : Addr) : Prop where
  tb : LamX.TabB X.base X.mg c tab
  cd : X.env.code = .ref c
  mem : (tab, X.env.qual ++ "<lambda>") ∈ G.T
  one : ∀ p ∈ G.T, p.1 = tab → p.2 = X.env.qual ++ "<lambda>"
theorem s_clam (cx : Cok G P C X W n) (ow : Own0 X) {g k f0 nn : Nat} {c tab : Addr} {params : Arguments} {body : Expr} {scope : Scope} {caps : List Nat} {N : List Str} {es : List Expr} {fl : Env → M (List Tn.W)} {p lpos pos : Pos} (mk : Mkr G X c tab) (hg : L2.Gl X (G.gn g)) (hd : (G.gn g == ("__debug__" : Str)) = false)
    (hst : nsts es = true) (hdef : defaultsOf params X.env = ([], [])) (hlam : G.lam k N params body scope) (hfr : ∀ y ∈ scope.names, y.2 = .free → X.env.scope.names.lookup y.1 = some .cell) (hcap : caps.map (fun i => X.N[i]?) = N.map some) (hNf : ∀ y ∈ N, (y, NameKind.free) ∈ scope.names)
    (hl : PA X es (tML G W fl)) (hn : ∀ e m ws m1, fl e m = .ok ws m1 → ws.length = nn) (hel : es.length = nn) (hx : P.glo[g]? = some (.fn f0)) :
    PE X (.Call (.Name (G.gn g) p) (.Lambda params body scope lpos :: es) [] pos) (tM G W fun e => (M.opt (capsOf e caps)).bind fun cs => (fl e).bind fun ws => fun m => nlR (callG P C g (nn + 1) [] (.lam k cs :: ws) m)) := by
  refine ⟨fun pins s σ H Q I ⟨ι, e, m, r, er, h⟩ => ?_⟩
  obtain ⟨cs, ecs, h⟩ := opt_bind h
  rw [bind_len (hn e)] at h
  have gm := cx.good.glo g _ hx
  obtain ⟨gm, kp⟩ : X.mg (G.gn g) = some (.ref (G.fa f0)) ∧ PySem.W.keepIn G.K (.ref (G.fa f0)) = true := gm
  rw [← cx.k] at kp
  have hfree : ∀ y ∈ scope.names, y.2 = .free → ∃ c, X.env.cells.lookup y.1 = some c := fun y hy z => I.ok.has _ (.inl (hfr y hy z))
  refine wpAny_Call_Name_kw (ld_glob I hg gm ?_ hd)
  refine PySem.W.callWith_K (h₀ := X.base) I.ok.mod.kin kp ?_ (by rfl) (star_any hst)
  show wpAny _ _ (spliced ((false, eval (.Lambda params body scope lpos) X.env) :: backTo pos (starEach es X.env))) _ _ s
  refine Calls.spliced_cons (lam_made I mk.tb mk.cd mk.mem mk.one r.tb hdef hfree fun f c' pm ctv H1 s1 I1 xN T1 hf nf big hc => ?_)
  have I1p : Inv X ((f, PySem.W.kla_obj "<lambda>" (X.env.qual ++ "<lambda>") params body scope (cloFrom X.env.cells scope.names []) pm c' ctv) :: pins) σ H1 s1 :=
    Inv.topin I1 ⟨hf, nf, Nat.ne_of_gt (Nat.lt_of_lt_of_le I.lt big), I.nofs big, fun v z => by cases z⟩
  have r1 := r.extN xN T1
  have x1 : Ex ι H ι H1 := Ex.extN xN
  have nc : c' ∉ ι := fun z => by
    obtain ⟨o, q1, _, q2⟩ := r1.kind z
    rw [hc] at q1
    cases q1
    exact q2 _ rfl
  refine thn (goA hl pos I1p r1 (er.ex x1) (PostG.later x1 h)) fun us s2 ⟨vs, ws, ι2, H2, m2, I2, rv, dv, r2, er2, x2, h2⟩ => ⟨I2.kIn, ?_⟩
  show wpAny _ _ (call (.ref (G.fa f0)) (.ref f :: us)) _ _ _
  obtain ⟨of2, nf2, _, _, _⟩ := I2.pin _ (List.mem_append_right _ List.mem_cons_self)
  have of2 : s2.heap.get? f = some (PySem.W.kla_obj "<lambda>" (X.env.qual ++ "<lambda>") params body scope (cloFrom X.env.cells scope.names []) pm c' ctv) := of2
  have nf2 : H2 f = none := nf2
  have hc2 := (x2.keep _ _ nc hc LamX.codeO_ne)
  have I2' := Inv.unpin I2
  have cm : ∀ q ∈ cloFrom X.env.cells scope.names [], X.env.cells.lookup q.1 = some q.2 := fun q hq => by
    rcases cloFrom_mem (show (q.1, q.2) ∈ _ from hq) with z | ⟨z1, z2⟩
    · cases z
    · obtain ⟨c1, e1⟩ := hfree _ z1 rfl
      have e1 : X.env.cells.lookup q.1 = some c1 := e1
      rw [e1, z2, e1]
      rfl
  -- what is told of while the call goes on
  obtain ⟨R, eR⟩ : ∃ R : List Addr, R = f :: (cloFrom X.env.cells scope.names []).map (·.2) := ⟨_, rfl⟩
  obtain ⟨Hb, eHb⟩ : ∃ Hb : Hp, Hb = showR R (fun b => (s2.heap.get? b).map fun o => CelO o b) H2 := ⟨_, rfl⟩
  have low : ∀ b ∈ R, X.s_0.heap.objs.size ≤ b := fun b hb => by
    rw [eR] at hb
    rcases List.mem_cons.mp hb with rfl | hb
    · exact Nat.le_trans I.sz big
    · obtain ⟨q, hq, rfl⟩ := List.mem_map.mp hb
      exact I.ok.cab q.1 q.2 (ow.fn _) (cm q hq)
  have here : ∀ b ∈ R, ∃ oc, s2.heap.get? b = some oc ∧ H2 b = none := fun b hb => by
    rw [eR] at hb
    rcases List.mem_cons.mp hb with rfl | hb
    · exact ⟨_, of2, nf2⟩
    · obtain ⟨q, hq, rfl⟩ := List.mem_map.mp hb
      obtain ⟨v, o, q1, q2⟩ := I2.cell _ _ (cm q hq)
      exact ⟨o, q1, I2.freeC _ _ (cm q hq)⟩
  have hn0 : ∀ b ∈ R, H2 b = none := fun b hb => (here b hb).elim fun _ z => z.2
  have ccO : CelsOn R Hb := fun b hb => by
    obtain ⟨oc, q, _⟩ := here b hb
    exact ⟨oc, by rw [eHb, show_in hb, q]; rfl⟩
  have eqO : ∀ b, b ∉ R → Hb b = H2 b := fun b hb => by rw [eHb, show_out hb]
  have gO : ∀ b ∈ R, ∀ oc, Hb b = some (CelO oc b) → s2.heap.get? b = some oc := fun b hb oc z => by
    obtain ⟨o, q, _⟩ := here b hb
    rw [eHb, show_in hb, q] at z
    have z2 : CelO o b = CelO oc b := Option.some.inj z
    injection z2 with z3
    rw [q, z3]
  have nfr : ∀ b ∈ R, b ∉ frs X.stack := fun b hb z => by
    rw [ow.st] at z
    obtain ⟨ev, hev, q⟩ := List.mem_filterMap.mp z
    rcases List.mem_cons.mp hev with rfl | hev
    · rw [ow.fr] at q
      have q : X.env.locals = b := Option.some.inj q
      rw [eR] at hb
      rcases List.mem_cons.mp hb with rfl | hb
      · exact absurd (Nat.lt_of_lt_of_le I.lt big) (by rw [q]; exact Nat.lt_irrefl _)
      · obtain ⟨p, hp, ep⟩ := List.mem_map.mp hb
        exact I2.cne _ _ (cm p hp) (ep.trans q.symm)
    · obtain ⟨_, o, q1, _⟩ := I.ok.funs.mem (List.mem_filterMap.mpr ⟨ev, hev, q⟩)
      exact absurd (Heap.lt_size q1) (Nat.not_lt.mpr (low b hb))
  have incl : ∀ b o, H2 b = some o → Hb b = some o := fun b o z => by
    rw [eqO b (fun hb => by rw [hn0 b hb] at z; cases z)]
    exact z
  have hokb : HOk X.prog X.w Hb s2.heap := by
    have z := hok_shown (Hb := Hb) I2.hok ccO hn0 gO
    have e1 : showR R Hb H2 = Hb := by
      funext b
      by_cases hb : b ∈ R
      · exact show_in hb
      · rw [show_out hb, eqO b hb]
    rw [e1] at z
    exact z
  have ev0 := I2'.env0
  have e0b : Env0 X.prog X.w X.K X.mg X.base X.A X.stack s2 Hb :=
    ⟨ev0.frames, ev0.mod, fun b o z => ⟨(ev0.bs b o z).1, by
      rw [eqO b (fun hb => absurd (Heap.lt_size (I.ok.bs b o z).1) (Nat.not_lt.mpr (low b hb)))]
      exact (ev0.bs b o z).2⟩, ev0.bsz, ev0.funs, fun b hb => by
      rw [eqO b (fun z => nfr b z hb)]
      exact ev0.frf b hb, hokb, ev0.bare⟩
  have xb : Ex ι2 H2 ι2 Hb := Ex.more incl
  have rb := r2.more incl
  obtain ⟨vc, lc, atc, dc⟩ := caps_ok er2 ecs
  have hNl : N.length = caps.length := by
    have := congrArg List.length hcap
    simpa using this.symm
  have dl : DenW G ι2 Hb (.ref f) (.lam k cs) := by
    simp only [DenW]
    refine ⟨f, c', X.env.qual ++ "<lambda>", N, params, body, scope, cloFrom X.env.cells scope.names [], vc, pm, ctv, rfl, r2.fresh nf2, hc2.1, ?_, incl _ _ hc2.2, hlam, ?_, ⟨fun x y cc q1 q2 => ?_, fun q hq => ?_, fun i x v q1 q2 => ?_⟩, dc.ex xb⟩
    · have hfR : f ∈ R := by rw [eR]; exact List.mem_cons_self
      rw [eHb, show_in hfR, of2]
      rfl
    · rw [hNl, lc, dc.length]
    · exact I.ok.inj x y cc (cm (x, cc) (PySem.mem_of_lookup q1)) (cm (y, cc) (PySem.mem_of_lookup q2))
    · obtain ⟨v, o, q1, q2⟩ := I2.cell _ _ (cm q hq)
      have hR : q.2 ∈ R := by rw [eR]; exact List.mem_cons_of_mem _ (List.mem_map_of_mem hq)
      exact ⟨r2.fresh (I2.freeC _ _ (cm q hq)), o, v, by rw [eHb, show_in hR, q1]; rfl, q2⟩
    · have hxN : x ∈ N := List.mem_of_getElem? q1
      have hj : ∃ j, caps[i]? = some j ∧ X.N[j]? = some x := by
        have z : (caps.map fun i => X.N[i]?)[i]? = some (some x) := by rw [hcap, List.getElem?_map, q1]; rfl
        rw [List.getElem?_map] at z
        cases ej : caps[i]? with
        | none => rw [ej] at z; cases z
        | some j => rw [ej] at z; exact ⟨j, rfl, Option.some.inj z⟩
      obtain ⟨j, ej, eN⟩ := hj
      have es := atc i j v ej q2
      have kc : X.env.scope.names.lookup x = some .cell := hfr (x, .free) (hNf x hxN) rfl
      obtain ⟨mm, _, lk⟩ := I2.loc
      obtain ⟨u, ru, l⟩ := lk j x v eN es (.inr (.inl kc))
      rcases l with ⟨z, _⟩ | ⟨_, cc, ecc, o, z1, z2⟩
      · have z : X.env.scope.names.lookup x = some .local := z
        rw [kc] at z
        cases z
      · have ecl : (cloFrom X.env.cells scope.names []).lookup x = some cc := NdefX.clo_has hfree (hNf x hxN) ecc
        have hR : cc ∈ R := by rw [eR]; exact List.mem_cons_of_mem _ (List.mem_map.mpr ⟨(x, cc), PySem.mem_of_lookup ecl, rfl⟩)
        exact ⟨cc, o, u, ecl, by rw [eHb, show_in hR, z1]; rfl, z2, ru⟩
  -- the call
  have hwl : ws.length = nn := by
    by_cases z : ws.length = nn
    · exact z
    · rw [if_neg z] at h2
      exact h2.elim
  rw [if_pos hwl] at h2
  have h2 : Post G ι2 H2 (nlR (callG P C g (nn + 1) [] (.lam k cs :: ws) m2)) Q fun c d H' => W c d σ H' := h2
  unfold callG at h2
  rw [hx] at h2
  cases efl : P.fill g (nn + 1) [] with
  | none => rw [efl] at h2; exact h2.elim
  | some fll =>
    rw [efl] at h2
    simp only at h2
    cases efw : fillWith (.lam k cs :: ws) fll with
    | none => rw [efw] at h2; exact h2.elim
    | some l =>
      rw [efw] at h2
      simp only at h2
      have sh := cx.good.shp g (nn + 1) [] fll efl
      unfold ShpOk at sh
      rw [hx] at sh
      obtain ⟨il, fu, fr, hb⟩ := sh
      obtain ⟨qs, rq, dq⟩ := fill_ok (vs := .ref f :: vs) (us := .ref f :: us) (ws := .lam k cs :: ws) (.cons rfl rv) ⟨dl, dv.ex xb⟩ fr efw
      have live : C.hi f0 l m2 ≠ .stuck := fun z => by rw [z] at h2; exact h2
      have hll := cx.hiL f0 l m2 live
      have hv : qs.length = (G.ps f0).length := dq.length.trans hll
      have F2 := cx.hi f0
      rw [← cx.k] at F2
      have subs : ∀ {H4 : Hp}, (∀ b ∈ R, H4 b = Hb b) → Subs H4 (hideR R H4) := fun {H4} same a o z no => by
        by_cases ha : a ∈ R
        · obtain ⟨oc, q⟩ := ccO a ha
          rw [same a ha, q] at z
          exact absurd (Option.some.inj z).symm (no _ _)
        · rw [hide_out ha]; exact z
      have exs : ∀ {ι' : List Addr} {H4 : Hp}, Ex ι2 Hb ι' H4 → Ex ι2 H2 ι' (hideR R H4) := fun {ι' H4} x => by
        refine ⟨x.pre, fun {a o u} z => ?_, fun a o ha z nt => ?_⟩
        · have hb : a ∉ R := fun hb => by rw [hn0 a hb] at z; cases z
          rw [hide_out hb]; exact x.frz (incl _ _ z)
        · have hb : a ∉ R := fun hb => by rw [hn0 a hb] at z; cases z
          rw [hide_out hb]; exact x.keep a o ha (incl _ _ z) nt
      have post : Post G ι2 Hb (C.hi f0 l m2) (fun v H4 => (∀ b ∈ R, H4 b = Hb b) → Q v (hideR R H4)) (fun cls d H4 => (∀ b ∈ R, H4 b = Hb b) → W cls d σ (hideR R H4)) := by
        cases er0 : C.hi f0 l m2 with
        | stuck => exact (live er0).elim
        | ok w m3 =>
          rw [er0] at h2
          simp only [nlR] at h2
          cases nl : (w.noL && m3.all MO.noL) with
          | false => rw [nl] at h2; exact h2.elim
          | true =>
            rw [nl] at h2
            obtain ⟨n1, n2⟩ := Bool.and_eq_true_iff.mp nl
            intro v ι' H4 x4 r4 d4 same
            exact h2 v ι' _ (exs x4) (MRel.subs (subs same) r4 n2) (DenW.subs (subs same) d4 n1)
        | exc xc xv m3 =>
          rw [er0] at h2
          simp only [nlR] at h2
          cases nl : m3.all MO.noL with
          | false => rw [nl] at h2; exact h2.elim
          | true =>
            rw [nl] at h2
            intro ι' H4 cls dd x4 r4 d4 same
            obtain ⟨z0, d0, v0, z1, z2, z3, z4⟩ := d4
            exact h2 ι' _ cls dd (exs x4) (MRel.subs (subs same) r4 nl) ⟨z0, d0, v0, z1, z2, subs same _ _ z3 (cel_n n_xd), Den.subs (subs same) z4⟩
      refine wpAny_call (codeAny_mono (F2.run X.A X.stack s2 Hb ⟨.ref f :: us, []⟩ (fillU (.ref f :: us) fu) qs _ _ cx.room cx.gd e0b ?_ rq ⟨il, hv, ι2, l, m2, rb, dq, post⟩) fun r0 s' hq => back_ok cx.tk I2' (cr_hid hn0 ccO eqO gO nfr (fun v H4 same z => z same) (fun cls d H4 same z => z same) hq))
      have ul : us.length = nn := by rw [← rv.length, dv.length]; exact hwl
      have z := hb s2 (.ref f :: us) [] (cx.kin I2') (by simp [ul]) rfl
      simpa using z
end
end Tn

set_option Elab.async false
set_option linter.all false
set_option maxRecDepth 100000
set_option maxHeartbeats 1000000
namespace Tn
open PySem PySem.Spec PyProof.Rows L2
section
variable {G : Gl} {P : Pg} {C : Tn.Call} {X : Cx} {W : WX} {n : Nat} {pins : List (Addr × Obj)} {σ : L2.St} {H H' : Hp} {s : Shared} {ι : List Addr} {m : Mu} {e : Env}
/-- {} -/
theorem s_dic0 {pos : Pos} : PE X (.Dict [] [] pos) (tM G W fun _ => M.ret (.d (.dic []))) :=
  ⟨fun pins s σ H Q I ⟨ι, e, m, r, er, h⟩ => pe_dnewK.run pins s σ H Q I fun p hp => Post.new h r hp (Den.dic (r.fresh hp) upd_same rfl (fun _ z => by cases z) .nil)⟩
/-- {'x': c} -/
theorem s_dic1 {x : Str} {v : V} {d : D} {a : Expr} {j : Nat} {p pos : Pos} (hx : StrOk x) (ha : PE X a (tC v)) (hd : ∀ ι H, Den G ι H v d) : PE X (.Dict [some (.Constant (.str x) j p)] [a] pos) (tM G W fun _ => M.ret (.d (.dic [(.inr x, d)]))) := by
  refine ⟨fun pins s σ H Q I ⟨ι, e, m, r, er, h⟩ => (pe_disp (pps_cons pe_str ha pps_nil) rfl rfl (by simp) (by simp)).run pins s σ H Q I fun q hq => ?_⟩
  show upd H q (.dK []) q = some (.dK []) ∧ _
  refine ⟨upd_same, [(.inr x, v)], rfl, by simp, ?_⟩
  have e1 : upd (upd H q (.dK [])) q (.dK (mergeK [] [(.inr x, v)])) = upd H q (.dK [(.inr x, v)]) := by rw [upd_upd]; rfl
  rw [e1]
  exact Post.new h r hq (Den.dic (r.fresh hq) upd_same rfl (fun z hz => by
    have : z = (.inr x, d) := by simpa using hz
    rw [this]
    exact hx) (.cons (hd _ _) .nil))
end
end Tn

set_option Elab.async false
set_option linter.all false
set_option maxRecDepth 100000
set_option maxHeartbeats 1000000
namespace Tn
open PySem PySem.Spec PyProof.Rows L2
/-! list(range(a, b)) with ends of any size -/
section
variable {P0 : Program} {w0 : World} {A0 : Around} {E0 : Value → Shared → Prop} {z : Shared} {rg : Addr} {lo hi st : Int} {k1 k2 k3 : Tok} {nn : Nat}
theorem ext_long {R0 : Result → Shared → Prop} (cold : A0.handled = none) (hrg : IsRange z.heap rg lo hi st k1 k2 k3) (big : Builtin.Range.small lo hi st = false)
    (hnn : Builtin.Range.rangeSize lo hi st = nn) (top : nn ≤ 2 ^ 24) (L : Addr) (out : Value) (q0 : Nat) (hL : z.heap.get? L = some { cls := .type "list", data := .seq #[] q0 })
    (fin : ∀ hp tk its q1, (∀ x o, x ≠ L → z.heap.get? x = some o → hp.get? x = some o) → hp.get? L = some { cls := .type "list", dict := none, data := .seq its q1, slots := #[] } →
      ItemsOf (fun i v => ∃ t, v = .int (lo + i * st) t) its nn → R0 (.ok (.ret out)) { z with heap := hp, toks := tk }) :
    wpAny (model P0 w0) A0.in1 (Builtin.List.listExtendWith (.ref L) (.ref rg) out)
      (fun en z' => match en with | .done f => R0 (.ok f) z' | .again cc => cc.quiet = true ∧ codeAny (model P0 w0) A0 cc R0 z') (fun er z' => R0 (.error er) z') z := by
  have nLr : L ≠ rg := fun q => by rw [q, hrg] at hL; simp at hL
  have nLI : L ≠ z.heap.objs.size := Nat.ne_of_lt (Heap.lt_size hL)
  have wk := (Walks.longrange (prog := P0) (w := w0) (A := A0.in1) cold z.heap.objs.size lo st nn).toS
  have loop : ∀ (hp : Heap) (q tk : Nat), IsLongIter hp z.heap.objs.size (lo + ((0 : Nat) : Int) * st) ((nn : Int) - ((0 : Nat) : Int)) st → (∀ x o, x ≠ L → z.heap.get? x = some o → hp.get? x = some o) →
      hp.get? L = some { cls := .type "list", data := .seq #[] q } → codeAny (model P0 w0) A0 (.builtin "list.extend.loop" ⟨[.ref L, .ref z.heap.objs.size, out], []⟩) R0 { z with heap := hp, toks := tk } := by
    intro hp q tk it0 keep hL1
    refine codeAny_extend_loopS wk (by rw [sizeLine_eq]; omega) L (fun mm => nLI (List.mem_singleton.mp mm)) out nn 0 _ #[] q rfl (Nat.zero_le _) it0 hL1 (ItemsOf.nil _) fun z' its q1 mv hL2 hit => ?_
    rw [Moved.eq_with mv]
    refine fin z'.heap z'.toks its q1 (fun x o nx ex => mv.heap x o (fun mm => ?_) (keep x o nx ex)) hL2 hit
    rcases List.mem_cons.mp mm with ex' | mm
    · exact nx ex'
    · have lt := Heap.lt_size ex
      rw [List.mem_singleton.mp mm] at lt
      exact absurd lt (Nat.lt_irrefl _)
  unfold Builtin.List.listExtendWith
  refine wpAny_bind (wpAny_typeOf (T := "range") ⟨_, hrg, rfl⟩ ?_)
  have n1 : Builtin.List.listSameRef (.ref L) (.ref rg) = false := by simp [Builtin.List.listSameRef, nLr]
  have n2 : (Value.type "range" == Value.type "list" || Value.type "range" == Value.type "tuple") = false := by decide
  have n2a : (Value.type "range" == Value.type "list") = false := by decide
  have n2b : (Value.type "range" == Value.type "tuple") = false := by decide
  simp only [n1, n2a, n2b, Bool.or_false, Bool.false_eq_true, if_false]
  refine wpAny_bind (wpAny_pyIter_longrange hrg big ?_)
  refine wpAny_bind (wpAny_holding (wpAny_hint_range (n := nn) (Heap.get?_push_of_some _ hrg) hnn top ?_))
  have it1 : IsLongIter (z.heap.push { cls := .type "longrange_iterator", data := .fields #[rawInt lo, rawInt (Builtin.Range.rangeSize lo hi st), rawInt st] }) z.heap.objs.size (lo + ((0 : Nat) : Int) * st) ((nn : Int) - ((0 : Nat) : Int)) st := by
    show IsLongIter _ _ _ _ _
    rw [hnn]
    simpa using Heap.get?_push_size _ rfl
  have hL1 := Heap.get?_push_of_some { cls := .type "longrange_iterator", data := .fields #[rawInt lo, rawInt (Builtin.Range.rangeSize lo hi st), rawInt st] } hL
  refine wpAny_ite_split (fun _ => ?_) (fun _ => wpAny_pure ⟨plainId_quiet F.plain_extend_loop _, loop _ q0 _ it1 (fun x o _ ex => Heap.get?_push_of_some _ ex) hL1⟩)
  refine wpAny_bind (wpAny_rule ?_)
  refine wpAny_bind ?_
  show wpAny _ _ (updateSeq L (·.push .none) >>= fun _ => updateSeq L (·.pop)) _ _ _
  refine wpAny_bind (wpAny_updateSeq hL1 rfl ?_)
  have hL2 := Heap.get?_update_self (Obj.mapSeq (·.push Value.none)) hL1 rfl
  refine wpAny_updateSeq (hz := by seq_fits) hL2 rfl ?_
  have hL3 := Heap.get?_update_self (Obj.mapSeq (·.pop)) hL2 rfl
  refine wpAny_pure ⟨plainId_quiet F.plain_extend_loop _, loop _ _ _ ?_ (fun x o nx ex => ?_) hL3⟩
  · exact (Heap.get?_update_other _ _ nLI).trans ((Heap.get?_update_other _ _ nLI).trans it1)
  · have nx' := Ne.symm nx
    exact (Heap.get?_update_other _ _ nx').trans ((Heap.get?_update_other _ _ nx').trans (Heap.get?_push_of_some _ ex))
theorem init_long {R0 : Result → Shared → Prop} (cold : A0.handled = none) (hrg : IsRange z.heap rg lo hi st k1 k2 k3) (big : Builtin.Range.small lo hi st = false)
    (hnn : Builtin.Range.rangeSize lo hi st = nn) (top : nn ≤ 2 ^ 24) (L : Addr) (hL : z.heap.get? L = some { cls := .type "list", data := .seq #[] })
    (fin : ∀ hp tk its q1, (∀ x o, x ≠ L → z.heap.get? x = some o → hp.get? x = some o) → hp.get? L = some { cls := .type "list", dict := none, data := .seq its q1, slots := #[] } →
      ItemsOf (fun i v => ∃ t, v = .int (lo + i * st) t) its nn → R0 (.ok (.ret .none)) { z with heap := hp, toks := tk }) :
    wpAny (model P0 w0) A0.in1 (Builtin.«list.__init__» ⟨[.ref L, .ref rg], []⟩)
      (fun en z' => match en with | .done f => R0 (.ok f) z' | .again cc => cc.quiet = true ∧ codeAny (model P0 w0) A0 cc R0 z') (fun er z' => R0 (.error er) z') z := by
  have nLr : L ≠ rg := fun q => by rw [q, hrg] at hL; simp at hL
  show wpAny _ _ (do let was ← Builtin.List.listItems (.ref L); Builtin.List.listUpdate (.ref L) (fun _ => #[]); letGo was.toList.reverse; Builtin.List.listExtendWith (.ref L) (.ref rg) .none) _ _ z
  refine wpAny_bind ?_
  unfold Builtin.List.listItems
  refine wpAny_bind (wpAny_seqItems hL rfl (wpAny_pure ?_))
  show wpAny _ _ (updateSeq L (fun _ => #[]) >>= fun _ => letGo (#[] : Array Value).toList.reverse >>= fun _ => Builtin.List.listExtendWith (.ref L) (.ref rg) .none) _ _ z
  refine wpAny_bind (wpAny_updateSeq hL rfl ?_)
  have hL2 := Heap.get?_update_self (Obj.mapSeq (fun _ => (#[] : Array Value))) hL rfl
  have keep : ∀ x o, x ≠ L → z.heap.get? x = some o → (z.heap.update L (Obj.mapSeq (fun _ => (#[] : Array Value)))).get? x = some o :=
    fun x o nx ex => (Heap.get?_update_other _ _ (Ne.symm nx)).trans ex
  refine wpAny_bind (wpAny_letGo ?_)
  exact ext_long cold (keep rg _ (Ne.symm nLr) hrg) big hnn top L .none _ hL2 fun hp tk its q1 kp hL3 hit =>
    fin hp tk its q1 (fun x o nx ex => kp x o nx (keep x o nx ex)) hL3 hit
theorem list_long {Q : Value → Shared → Prop} (cold : A0.handled = none) (hrg : IsRange z.heap rg lo hi st k1 k2 k3) (hnn : Builtin.Range.rangeSize lo hi st = nn) (top : nn ≤ 2 ^ 24)
    (fin : ∀ hp tk its q1, (∀ x o, z.heap.get? x = some o → hp.get? x = some o) → hp.get? z.heap.objs.size = some { cls := .type "list", dict := none, data := .seq its q1, slots := #[] } →
      ItemsOf (fun i v => ∃ t, v = .int (lo + i * st) t) its nn → Q (.ref z.heap.objs.size) { z with heap := hp, toks := tk }) :
    wpAny (model P0 w0) A0 (call (.type "list") [.ref rg]) Q E0 z := by
  cases big : Builtin.Range.small lo hi st with
  | true => exact call_list_range cold hrg big hnn top fin
  | false =>
    refine callType_codes (Q₁ := fun ob z₁ => ob = .ref z.heap.objs.size ∧ z₁ = { z with heap := z.heap.push { cls := .type "list", data := .seq #[] } }) F.called_list (F.typeCall_list_1 _) F.entry_list_init
      (code_list_new _ ⟨rfl, rfl⟩) fun ob z₁ hz => ?_
    obtain ⟨rfl, rfl⟩ := hz
    have hL : (z.heap.push { cls := .type "list", data := .seq #[] }).get? z.heap.objs.size = some { cls := .type "list", data := .seq #[] } := Heap.get?_push_size _ rfl
    refine ⟨⟨_, hL, rfl⟩, F.args_list_init_2 _ _, init_long (A0 := A0.in1) cold (Heap.get?_push_of_some _ hrg) big hnn top _ hL fun hp tk its q1 kp hL2 hit => ?_⟩
    exact ⟨rfl, fin hp tk its q1 (fun x o ex => kp x o (Nat.ne_of_lt (Heap.lt_size ex)) (Heap.get?_push_of_some _ ex)) hL2 hit⟩
end
section
variable {G : Gl} {P : Pg} {C : Tn.Call} {X : Cx} {W : WX} {n : Nat} {a b : Expr} {fa fb : Env → M Tn.W} {p p2 apos pos : Pos}
def tLL (te : L2.St → Hp → (Int → Int → Hp → Prop) → Prop) : TE := fun σ H Q => te σ H fun i j H1 => (j - i).toNat ≤ 2 ^ 24 ∧ ∀ q, H1 q = none → Q (.ref q) (upd H1 q (.lst (rgV i j)))
theorem pe_ll {e : Expr} {te : L2.St → Hp → (Int → Int → Hp → Prop) → Prop} (hc : X.calm = true) (hg : L2.Gl X (Str.ofString "list")) (hm : X.mg (Str.ofString "list") = none) (he : PRg X e te) (na : starEach [e] X.env = (false, eval e X.env) :: starEach [] X.env := by rfl) :
    PE X (.Call (.Name (Str.ofString "list") p) [e] [] pos) (tLL te) := by
  refine ⟨fun pins s σ H Q I h => ?_⟩
  refine Call_ (ld_blt I hg hm boot_list (PyProof.Rows.callWith_type1 (args_cons (thn (he pins s σ H _ I h) fun x s1 ⟨r, i, j, t, u, v, H1, ex, hr, I1, top, q⟩ => args_nil ?_) na) na))
  subst ex
  refine list_long (nn := (j - i).toNat) (I1.ok.hd hc) hr (rangeSize_nat i j) top fun h' tk its q1 kp hL hit => ?_
  refine ⟨.ref s1.heap.objs.size, upd H1 s1.heap.objs.size (.lst (rgV i j)), I1.laid kp (Nat.le_refl _) ?_, rfl, q _ (I1.hok.fresh (Nat.le_refl _))⟩
  show ObjOk X.prog X.w _ _ _ (.lst (rgV i j))
  refine ⟨?_, its.toList, q1, vals_rg hit, ?_⟩
  · rw [rgV_length, sizeLine_eq]
    omega
  · rw [Array.toArray_toList]
    exact hL
/-- list(range(a, b)) -/
theorem s_lrg2 (cx : Cok G P C X W n) (hg : L2.Gl X (Str.ofString "list")) (hg2 : L2.Gl X (Str.ofString "range")) (hst : nst a = true) (hst2 : nst b = true) (ha : PE X a (tM G W fa)) (hb : PE X b (tM G W fb)) :
    PE X (.Call (.Name (Str.ofString "list") p) [.Call (.Name (Str.ofString "range") p2) [a, b] [] apos] [] pos) (tM G W fun e => (fa e).bind fun x => (fb e).bind fun y => lrg2D x y) := by
  refine ⟨fun pins s σ H Q I ⟨ι, e, m, r, er, h⟩ => ?_⟩
  have m1 : X.mg (Str.ofString "list") = none := cx.good.free _ (by simp [bltNs])
  have m2 : X.mg (Str.ofString "range") = none := cx.good.free _ (by simp [bltNs])
  refine (pe_ll cx.calm hg m1 (prg_2 hg2 m2 ha hb (star_cons hst) (star_cons hst2) (by rw [star_cons hst2]; rfl))).run pins s σ H Q I ⟨ι, e, m, r, er, ?_⟩
  refine PostG.bind h fun w m1 x ι1 H1 _z ex r1 dx q => ⟨ι1, e, m1, r1, er.ex ex, ?_⟩
  clear _z
  refine PostG.bind q fun w2 m2 x2 ι2 H2 _z ex2 r2 dx2 q2 => ?_
  clear _z
  unfold lrg2D at q2
  split at q2
  · rename_i i j
    cases dx
    cases dx2
    cases eb : decide (j - i < (strTop : Int)) with
    | false => rw [eb] at q2; exact q2.elim
    | true =>
      rw [eb] at q2
      have b1 := of_decide_eq_true eb
      have st : strTop = 4000000 := rfl
      refine ⟨i, j, rfl, rfl, by omega, fun p hp => ?_⟩
      refine Post.new q2 r2 hp (newLst r2 hp ?_)
      unfold rgV rngL
      exact rng_den i 0 _
  · exact q2.elim
variable {c : Expr} {fc : Env → M Tn.W}
/-- a op1 b op2 c as a test -/
theorem s_chnT (cx : Cok G P C X W n) {o1 o2 : CmpOp} (hm : lastMarks [o1, o2] [b, c] = false) (ha : PE X a (tM G W fa)) (hb : PE X b (tM G W fb)) (hc : PE X c (tM G W fc)) :
    PT X (.Compare a [o1, o2] [b, c] pos) (tMB G W fun e => ((fa e).bind fun x => (fb e).bind fun y => (cmpD P C o1 x y).bind fun k => match k with
      | true => (fc e).bind fun z => (cmpD P C o2 y z).bind fun k => M.ret (.d (.bl k))
      | false => M.ret (.d (.bl false))).bind tru) := by
  refine ⟨fun pins s σ H Q I ⟨ι, e, m, r, er, h⟩ => ?_⟩
  have h : PostB G ι H (((fa e).bind fun x => (fb e).bind fun y => (cmpD P C o1 x y).bind fun k => (match k with
      | true => (fc e).bind fun z => (cmpD P C o2 y z).bind fun k => M.ret (.d (.bl k))
      | false => M.ret (.d (.bl false)) : M Tn.W).bind tru) m) Q fun c d H' => W c d σ H' := by
    have q : PostB G ι H ((((fa e).bind fun x => (fb e).bind fun y => (cmpD P C o1 x y).bind fun k => (match k with
      | true => (fc e).bind fun z => (cmpD P C o2 y z).bind fun k => M.ret (.d (.bl k))
      | false => M.ret (.d (.bl false)) : M Tn.W)).bind tru) m) Q fun c d H' => W c d σ H' := h
    simp only [bind_assoc] at q
    exact q
  refine isTrue_chain (thn (goE ha I r er h) fun v s1 ⟨x, w, ι1, H1, m1, I1, rx, dx, r1, er1, ex1, h1⟩ => test_link (thn (goE hb I1 r1 er1 h1) fun u s2 ⟨y, w2, ι2, H2, m2, I2, ry, dy, r2, er2, ex2, h2⟩ =>
    thn (cmp_any cx I2 r2 er2 rx ry (dx.ex ex2) dy h2) fun d s3 ⟨k, ι3, H3, m3, ez, I3, r3, er3, ex3, h3⟩ => ?_)) hm
  subst ez
  refine wpAny_truthy_bool ?_
  cases k with
  | false =>
    simp only [ret_bind, tru_bl] at h3
    exact ite_ff ⟨H3, I3, h3 _ _ _ Ex.refl r3 rfl⟩
  | true =>
    simp only [bind_assoc, ret_bind, tru_bl] at h3
    refine ite_tt (test_last (thn (goE hc I3 r3 er3 h3) fun q s4 ⟨z, w4, ι4, H4, m4, I4, rz, dz, r4, er4, ex4, h4⟩ => ?_))
    refine thn (cmp_any cx I4 r4 er4 ry rz ((dy.ex ex3).ex ex4) dz h4) fun z s5 ⟨k, ι5, H5, m5, ez, I5, r5, er5, ex5, h5⟩ => ?_
    rw [ez]
    exact wpAny_truthy_bool ⟨H5, I5, h5 _ _ _ Ex.refl r5 rfl⟩
end
end Tn

set_option Elab.async false
set_option linter.all false
set_option maxRecDepth 100000
namespace Tn
open PySem PySem.Spec PyProof.Rows L2
/-! comprehensions over a list that may change; append -/
section
variable {α β : Type} {R : List Addr → Hp → β → α → Prop} {G : Gl} {P : Pg} {C : Tn.Call} {X : Cx} {W : WX} {n : Nat} {pins : List (Addr × Obj)} {σ : L2.St} {H : Hp} {s : Shared} {ι : List Addr} {m : Mu} {e : Env} {E : XK}
variable {a b c : Expr} {pos p p2 apos : Pos} {fa fb fc : Env → M Tn.W} {es : List Expr} {fl fk : Env → M (List Tn.W)}
def tIR (G : Gl) (K : PySem.W.Frag) (j : Nat) : TI := fun σ H Q => ∃ ι e m i a l, MRel G ι H m ∧ ERel G ι H σ e ∧ e[j]? = some (some (.r i)) ∧ ι[i]? = some a ∧ m[i]? = some (MO.lst l) ∧ Q (Itl K a) H
theorem i_ref {j : Nat} {x : Str} {tg : Expr} (hN : X.N[j]? = some x) (hv : Vis X.env.scope x) (hd : (x == ("__debug__" : Str)) = false) (hcd : (x == ("__classdict__" : Str)) = false) : PI X tg (.Name x pos) (tIR G X.K j) := by
  refine ⟨fun pins s σ H R I ⟨ι, e, m, i, a, l, r, er, ej, ea, em, q⟩ => ?_⟩
  obtain ⟨v, es, dv⟩ := er.2 j _ ej
  obtain ⟨a', ea', ev⟩ := dv
  rw [ea] at ea'
  cases ea'
  subst ev
  refine thn ((pe_var hN hv hd hcd).run pins s σ H (fun x H' => x = .ref a ∧ H' = H) I ⟨_, es, rfl, rfl⟩) fun u s1 ⟨x, H1, I1, rx, ex, eH⟩ => ?_
  subst ex
  subst eH
  cases rx
  obtain ⟨vs, e0, _⟩ := r.ok _ _ _ ea em
  obtain ⟨its, rv, p, hz⟩ := I1.list (.of e0)
  refine wpAny_pyIter_list p.isList ?_
  refine ⟨s1.heap.objs.size, [s1.heap.objs.size], _, _, H1, rfl, I1.kept (t' := s1.toks) fun b o e => Heap.get?_push_of_some _ e, turn_list a _, ⟨_, Heap.get?_push_size _ rfl, rfl, rfl⟩, fun b hb => ?_, q⟩
  have e : b = s1.heap.objs.size := by simpa using hb
  subst e
  exact I1.fpOk (Nat.le_refl _) (I1.hok.fresh (Nat.le_refl _))
def lcrF (t : Tg) (own : List Nat) (j : Nat) (fb : Env → M Bool) (fe : Env → M Tn.W) (e : Env) : M Tn.W := (M.opt ((e[j]?).bind id)).bind fun x => (match x with
    | .r i => fun m => (match m[i]? with
      | some (.lst l) => endL m.length (goR (lcF t own fb fe e) i m.length l.length 0 (m ++ [.lst []]))
      | _ => .stuck)
    | _ => M.no)
theorem lcr_reads (cx : Cok G P C X W n) {t : Tg} {own : List (Str × Nat)} {j : Nat} {fb : Env → M Bool} {fe : Env → M Tn.W} (ht : ∀ i ∈ t.ix, i ∈ own.map (·.2)) :
    ∀ σ H Q, tM G W (lcrF t (own.map (·.2)) j fb fe) σ H Q → tLc (tIR G X.K j) (gTg X.K t) (tMB G (fun _ _ _ _ => False) fb) (tM G (fun _ _ _ _ => False) fe) (own.map (·.2)) σ H Q := by
  refine fun σ H Q ⟨ι1, e, m1, r1, er1, h⟩ => ?_
  obtain ⟨x, ej, p⟩ := opt_bind h
  clear h
  have ej2 : e[j]? = some (some x) := by
    cases q : e[j]? with
    | none => rw [q] at ej; cases ej
    | some o => rw [q] at ej; have : o = some x := ej; rw [this]
  cases x with
  | d _ => exact p.elim
  | lam _ _ => exact p.elim
  | r ii =>
  simp only at p
  cases em : m1[ii]? with
  | none => rw [em] at p; exact p.elim
  | some o =>
  cases o with
  | dic _ => rw [em] at p; exact p.elim
  | ins _ _ => rw [em] at p; exact p.elim
  | lst l =>
  rw [em] at p
  simp only at p
  obtain ⟨aa, ea⟩ : ∃ aa, ι1[ii]? = some aa := by
    have lt : ii < ι1.length := by rw [r1.len]; exact (List.getElem?_eq_some_iff.mp em).1
    exact ⟨_, List.getElem?_eq_getElem lt⟩
  refine ⟨ι1, e, m1, ii, aa, l, r1, er1, ej2, ea, em, fun D hD => ?_⟩
  generalize hL : l.length = L at p
  obtain ⟨rD, exD⟩ := r1.pushL (vs := []) (ws := []) hD trivial
  obtain ⟨mE, hE⟩ : ∃ mE, goR (lcF t (own.map (·.2)) fb fe e) ii m1.length L 0 (m1 ++ [.lst []]) = .ok () mE := by
    cases q : goR (lcF t (own.map (·.2)) fb fe e) ii m1.length L 0 (m1 ++ [.lst []]) with
    | ok u mE => exact ⟨mE, rfl⟩
    | exc _ _ _ => rw [q] at p; exact p.elim
    | stuck => rw [q] at p; exact p.elim
  rw [hE] at p
  refine ⟨fun i k H' => i ≤ L ∧ k = L - i ∧ ∃ ι' m', Ex (ι1 ++ [D]) (upd H D (.lst [])) ι' H' ∧ MRel G ι' H' m' ∧ goR (lcF t (own.map (·.2)) fb fe e) ii m1.length (L - i) i m' = .ok () mE, ⟨_, Nat.zero_le _, rfl, _, _, Ex.refl, rD, by simpa using hE⟩, ?_⟩
  rintro i k H2 ⟨hil, rfl, ι2, m2, ex2, r2, g2⟩
  have exA := exD.trans ex2
  have atD : ι2[m1.length]? = some D := ex2.get (by rw [← r1.len]; simp)
  by_cases hi : i < L
  · have q0 : L - i = (L - (i + 1)) + 1 := by omega
    rw [q0] at g2
    obtain ⟨l2, w, em2, ew, g3⟩ : ∃ l2 w, m2[ii]? = some (.lst l2) ∧ l2[i]? = some w ∧ (((lcF t (own.map (·.2)) fb fe e) w).bind fun o => match o with
        | some d => (pushA m1.length d).bind fun _ => goR (lcF t (own.map (·.2)) fb fe e) ii m1.length (L - (i + 1)) (i + 1)
        | none => goR (lcF t (own.map (·.2)) fb fe e) ii m1.length (L - (i + 1)) (i + 1)) m2 = .ok () mE := by
      unfold goR at g2
      split at g2
      · rename_i l2 em2
        split at g2
        · rename_i w ew
          exact ⟨l2, w, em2, ew, g2⟩
        · cases g2
      · cases g2
    obtain ⟨vs2, e62, d62⟩ := r2.ok _ _ _ (ex2.get (exD.get ea)) em2
    obtain ⟨x2, ex2v, dx2⟩ := d62.get ew
    refine .inr ⟨⟨vs2, x2, .of e62, ex2v⟩, fun H' => ∃ ι' m', Ex (ι1 ++ [D]) (upd H D (.lst [])) ι' H' ∧ MRel G ι' H' m' ∧ goR (lcF t (own.map (·.2)) fb fe e) ii m1.length (L - (i + 1)) (i + 1) m' = .ok () mE, fun H' ⟨ι', m', q⟩ => ⟨L - (i + 1), by omega, by omega, rfl, ι', m', q⟩, fun x H3 hy => ?_⟩
    obtain ⟨rfl, hy⟩ := hy
    have e1 := hy vs2 (.of e62)
    rw [ex2v] at e1
    cases e1
    have dx := dx2
    have r3 := r2
    have ex3 : Ex ι2 H3 ι2 H3 := Ex.refl
    cases es : setT t w (wipeE e (own.map (·.2))) with
    | none =>
      have hw : lcF t (own.map (·.2)) fb fe e w = M.no := by
        unfold lcF
        rw [es]
      rw [hw] at g3
      cases g3
    | some e1 =>
      have hw : lcF t (own.map (·.2)) fb fe e w = (fb e1).bind fun k => match k with
          | true => datM (fe e1)
          | false => M.ret none := by
        unfold lcF
        rw [es]
        try rfl
      rw [hw, bind_assoc] at g3
      refine tg_ok cx.k es dx ((((er1.ex exA).ex ex3)).wip _) fun σ' er' hw => ⟨(hw _ ht).trans ?_, ι2, e1, m2, r3, er', ?_⟩
      · -- wiped twice
        apply List.ext_getElem?
        intro j
        by_cases hj : j ∈ own.map (·.2)
        · have key : ∀ τ : L2.St, τ.length = σ.length → (L2.wipe τ (own.map (·.2)))[j]? = if j < σ.length then some none else none := fun τ hl => by
            by_cases hl2 : j < σ.length
            · rw [if_pos hl2]
              have hlt : j < (L2.wipe τ (own.map (·.2))).length := by rw [L2.wipe_length, hl]; exact hl2
              rw [List.getElem?_eq_getElem hlt]
              cases q : (L2.wipe τ (own.map (·.2)))[j] with
              | none => rfl
              | some x => exact absurd hj (L2.wipe_some (by rw [List.getElem?_eq_getElem hlt, q])).2
            · rw [if_neg hl2]
              exact List.getElem?_eq_none (by rw [L2.wipe_length, hl]; omega)
          rw [key _ (L2.wipe_length _ _), key _ rfl]
        · rw [L2.wipe_out hj]
      · cases eb : fb e1 m2 with
        | stuck => rw [bind_stuck eb] at g3; cases g3
        | exc _ _ _ => rw [bind_exc eb] at g3; cases g3
        | ok k m3 =>
          intro k' ι4 H4 ex4 r4 ek
          subst ek
          rw [bind_ok eb] at g3
          have exB := (ex2.trans ex3).trans ex4
          cases k' with
          | false => exact ite_ff ⟨ι4, m3, exB, r4, g3⟩
          | true =>
            refine ite_tt ⟨ι4, e1, m3, r4, er'.ex ex4, ?_⟩
            simp only [datM] at g3
            rw [bind_assoc] at g3
            cases ee : fe e1 m3 with
            | stuck => rw [bind_stuck ee] at g3; cases g3
            | exc _ _ _ => rw [bind_exc ee] at g3; cases g3
            | ok y m5 =>
              intro v ι5 H5 ex5 r5 dv
              cases y with
              | d q =>
                rw [bind_ok ee] at g3
                have g5 := g3
                have atD5 : ι5[m1.length]? = some D := (ex4.trans ex5).get atD
                simp only [ret_bind] at g5
                cases em : m5[m1.length]? with
                | none =>
                  rw [bind_stuck (show pushA m1.length q m5 = .stuck by unfold pushA; rw [em])] at g5
                  cases g5
                | some o =>
                  cases o with
                  | lst l =>
                    cases el : decide (l.length < strTop) with
                    | false =>
                      rw [bind_stuck (show pushA m1.length q m5 = .stuck by unfold pushA; rw [em]; simp only [el]; rfl)] at g5
                      cases g5
                    | true =>
                      rw [bind_ok (show pushA m1.length q m5 = .ok () (m5.set m1.length (.lst (l ++ [.d q]))) by unfold pushA; rw [em]; simp only [el]; rfl)] at g5
                      obtain ⟨vs, e6, d6⟩ := r5.ok _ _ _ atD5 em
                      have sz := strTop_le
                      have el := of_decide_eq_true el
                      have mD : D ∈ ι5 := List.mem_of_getElem? atD5
                      have exW : Ex ι5 H5 ι5 (upd H5 D (.lst (vs ++ [v]))) := Ex.write mD (r5.nofrz mD)
                      refine ⟨vs, e6, by rw [d6.length]; omega, ι5, m5.set m1.length (.lst (l ++ [.d q])), (exB.trans ex5).trans exW, r5.write atD5 ⟨vs ++ [v], upd_same, ?_⟩, g5⟩
                      exact (d6.ex exW).append ⟨DenW.ex exW dv, trivial⟩
                  | dic _ =>
                    rw [bind_stuck (show pushA m1.length q m5 = .stuck by unfold pushA; rw [em])] at g5
                    cases g5
                  | ins _ _ =>
                    rw [bind_stuck (show pushA m1.length q m5 = .stuck by unfold pushA; rw [em])] at g5
                    cases g5
              | _ => rw [bind_ok ee] at g3; cases g3
  · have e0 : i = L := by omega
    subst e0
    have q0 : i - i = 0 := by omega
    rw [q0] at g2
    obtain ⟨l2, em2, el2⟩ : ∃ l2, m2[ii]? = some (.lst l2) ∧ l2.length = i ∧ mE = m2 := by
      unfold goR at g2
      split at g2
      · rename_i l2 em2
        split at g2
        · rename_i el
          cases g2
          exact ⟨l2, em2, el, rfl⟩
        · cases g2
      · cases g2
    obtain ⟨el2, rfl⟩ := el2
    obtain ⟨vs2, e62, d62⟩ := r2.ok _ _ _ (ex2.get (exD.get ea)) em2
    refine .inl ⟨⟨vs2, .of e62, by rw [d62.length, el2]; exact Nat.le_refl _⟩, ?_⟩
    simp only [endL] at p
    cases em : mE[m1.length]? with
    | none => rw [em] at p; exact p.elim
    | some o =>
      rw [em] at p
      cases o with
      | lst l =>
        cases ec : cutMu m1.length mE with
        | none => rw [ec] at p; exact p.elim
        | some m9 =>
          rw [ec] at p
          simp only at p
          cases ed : datOf l with
          | none => rw [ed] at p; exact p.elim
          | some ds =>
            rw [ed] at p
            obtain ⟨vs, e6, d6⟩ := r2.ok _ _ _ atD em
            have tk : ι2.take m1.length = ι1 := by rw [← r1.len]; exact exA.take
            have z := r2.cut ec
            rw [tk] at z
            exact p _ ι1 H2 exA.down z (Den.lst (r1.fresh hD) e6 (DenL.less (fun a q => exA.pre.subset q) (d6.dat ed)))
      | _ => exact p.elim
theorem s_lcr (cx : Cok G P C X W n) {t : Tg} {own : List (Str × Nat)} {j : Nat} {x : Str} {scope : Scope} {elt tg : Expr} {ifs : List Expr} {fb : Env → M Bool} {fe : Env → M Tn.W} (hN : X.N[j]? = some x) (hv : Vis X.env.scope x) (hd : (x == ("__debug__" : Str)) = false) (hcd : (x == ("__classdict__" : Str)) = false) (ok : BlkOk X.N X.env.scope scope own) (ht : ∀ i ∈ t.ix, i ∈ own.map (·.2))
    (hg : ∀ (s : Shared) (H : Hp) (C : Addr) (cl : List (Str × Addr)) (fp : List Addr), PG (X.blk s H scope (compEnvC scope cl C X.env) fp) tg (gTg X.K t)) (hc : ∀ (s : Shared) (H : Hp) (C : Addr) (cl : List (Str × Addr)) (fp : List Addr), PTs (X.blk s H scope (compEnvC scope cl C X.env) fp) ifs (tMB G (fun _ _ _ _ => False) fb))
    (he : ∀ (s : Shared) (H : Hp) (C : Addr) (cl : List (Str × Addr)) (fp : List Addr), PE (X.blk s H scope (compEnvC scope cl C X.env) fp) elt (tM G (fun _ _ _ _ => False) fe)) :
    PE X (.ListComp elt [⟨tg, .Name x p, ifs, 0⟩] scope pos) (tM G W (lcrF t (own.map (·.2)) j fb fe)) :=
  ⟨fun pins s σ H Q I h => (pe_lc cx.calm cx.nd (i_ref hN hv hd hcd) ok hg hc he (fun _ => rfl)).run pins s σ H Q I (lcr_reads cx ht σ H Q h)⟩
/-- x.append(b) -/
theorem x_app {o : Expr} {cpos : Pos} (ho : PE X o (tM G W fa)) (hb : PE X b (tM G W fb)) (hst : nst b = true) (hbase : attributeBase o (Str.ofString "append") X.env (eval o X.env) = eval o X.env) (hline : (apos.endLine == cpos.line) = true) (hs : swapsWith (.Call (.Attribute o (Str.ofString "append") apos) [b] [] cpos) none pos.line X.env = pure false) :
    PS X (.Expr (.Call (.Attribute o (Str.ofString "append") apos) [b] [] cpos) pos) (tX G W fun e m => Out.ofR e (fa e m) fun o m1 => (match o with
    | .r j => (match m1[j]? with
      | some (.lst _) => Out.ofR e (fb e m1) fun w m2 => (match m2[j]? with
        | some (.lst l) => bif decide (l.length < strTop) then .nx e (m2.set j (.lst (l ++ [w]))) else .st
        | _ => .st)
      | _ => .st)
    | _ => .st)) := by
  have mt : MtR X "list.append" rAppend := fun pins s σ H x xs v us Q I rx rxs h => mt_append pins s σ H x xs v us Q I rx rxs h
  have fe : PE X (.Call (.Attribute o (Str.ofString "append") apos) [b] [] cpos) (tBM X.K "list" rAppend (tM G W fa) _) :=
    pe_bm PySem.F.plainAttrs_list PySem.F.slot_list_append PySem.F.type_list_append mt ho (pa_cons hb pa_nil (star_cons hst)) hbase (by rw [star_cons hst]; rfl) hline (star_cons hst) rfl
  refine ⟨fun pins s σ H D I ⟨ι, e, m, r, er, h⟩ => (ps_expr fe hs).run pins s σ H D I ⟨ι, e, m, r, er, ?_⟩⟩
  refine ofR h er fun w m1 x ι1 H1 _ x1 r1 dx er1 p1 => ?_
  cases w with
  | d _ => exact p1.elim
  | lam _ _ => exact p1.elim
  | r j =>
  obtain ⟨q, eq, rfl⟩ := dx
  simp only at p1
  cases em : m1[j]? with
  | none => rw [em] at p1; exact p1.elim
  | some o =>
  cases o with
  | dic _ => rw [em] at p1; exact p1.elim
  | ins _ _ => rw [em] at p1; exact p1.elim
  | lst l0 =>
  rw [em] at p1
  simp only at p1
  obtain ⟨vs0, e0, d0⟩ := r1.ok j q _ eq em
  refine ⟨.inl ⟨rfl, vs0, .of e0⟩, ι1, e, m1, r1, er1, ?_⟩
  refine ofR p1 er1 fun w2 m2 y ι2 H2 _ x2 r2 dy er2 p2 => ?_
  have eq2 := x2.get eq
  cases em2 : m2[j]? with
  | none => rw [em2] at p2; exact p2.elim
  | some o =>
  cases o with
  | dic _ => rw [em2] at p2; exact p2.elim
  | ins _ _ => rw [em2] at p2; exact p2.elim
  | lst l2 =>
  rw [em2] at p2
  simp only at p2
  cases el : decide (l2.length < strTop) with
  | false => rw [el] at p2; exact p2.elim
  | true =>
  rw [el] at p2
  have el := of_decide_eq_true el
  obtain ⟨vs2, e2, d2⟩ := r2.ok j q _ eq2 em2
  have mq : q ∈ ι2 := List.mem_of_getElem? eq2
  have sz := strTop_le
  have exW : Ex ι2 H2 ι2 (upd H2 q (.lst (vs2 ++ [y]))) := Ex.write mq (r2.nofrz mq)
  refine ⟨q, vs2, y, rfl, rfl, e2, by rw [d2.length]; omega, ?_⟩
  exact p2 σ ι2 _ exW (r2.write eq2 ⟨_, upd_same, (d2.ex exW).append ⟨DenW.ex exW dy, trivial⟩⟩) (er2.ex exW)
end
end Tn

set_option Elab.async false
set_option linter.all false
set_option maxRecDepth 100000
set_option maxHeartbeats 1000000
namespace Tn
open PySem PySem.Spec PyProof.Rows L2
/-! texts: their methods, f-strings; displays with stars; extend; enumerate -/
/-! ### texts that come out are told of -/
theorem sOkB_ok {x : Str} (h : sOkB x = true) : StrOk x := by
  obtain ⟨h1, h2⟩ := Bool.and_eq_true_iff.mp h
  exact ⟨of_decide_eq_true h1, fun c hc => of_decide_eq_true (List.all_eq_true.mp h2 c hc)⟩
theorem joinL_mem {S : List Nat} {c : Nat} : ∀ {l : List (List Nat)}, c ∈ TL.joinL S l → c ∈ S ∨ ∃ p ∈ l, c ∈ p
  | [], h => by cases h
  | [p], h => .inr ⟨p, List.mem_singleton.mpr rfl, h⟩
  | p :: q :: r, h => by
    have h : c ∈ p ++ (S ++ TL.joinL S (q :: r)) := h
    rcases List.mem_append.mp h with h | h
    · exact .inr ⟨p, List.mem_cons_self, h⟩
    · rcases List.mem_append.mp h with h | h
      · exact .inl h
      · rcases joinL_mem h with h | ⟨z, hz, h⟩
        · exact .inl h
        · exact .inr ⟨z, List.mem_cons_of_mem _ hz, h⟩
theorem joinL_len (S : List Nat) : ∀ l : List (List Nat), (TL.joinL S l).length ≤ (l.map List.length).sum + l.length * S.length
  | [] => by simp [TL.joinL]
  | [p] => by simp [TL.joinL]
  | p :: q :: r => by
    have ih := joinL_len S (q :: r)
    show (p ++ (S ++ TL.joinL S (q :: r))).length ≤ _
    simp only [List.length_append, List.map_cons, List.sum_cons, List.length_cons, Nat.add_mul, Nat.one_mul] at ih ⊢
    omega
theorem join_ok {a : Str} {ys : List Str} (ha : StrOk a) (hy : ∀ y ∈ ys, StrOk y) (h : joinB a ys = true) : StrOk (Txt.join a ys) := by
  have h := of_decide_eq_true h
  rw [TL.join_eq]
  refine ⟨?_, fun c hc => ?_⟩
  · rw [TL.len_tl, TL.tl_join]
    refine Nat.le_trans (joinL_len _ _) ?_
    rw [List.map_map, List.length_map]
    have e : (ys.map (List.length ∘ TL.tl)) = ys.map (·.length) := List.map_congr_left fun y _ => (TL.len_tl y).symm
    rw [e, ← TL.len_tl]
    exact h
  · have hc : c ∈ TL.tl (Str.join a ys) := hc
    rw [TL.tl_join] at hc
    rcases joinL_mem hc with hc | ⟨p, hp, hc⟩
    · exact ha.2 c hc
    · obtain ⟨y, hy1, rfl⟩ := List.mem_map.mp hp
      exact (hy y hy1).2 c hc
theorem spl_mem {S : List Nat} {c : Nat} : ∀ {l : List Nat} {k : Nat} {acc p : List Nat}, p ∈ TL.spl S k acc l → c ∈ p → c ∈ acc ∨ c ∈ l
  | [], k, acc, p, h, hc => by
    rw [TL.spl_nil] at h
    rw [List.mem_singleton.mp h] at hc
    exact .inl hc
  | d :: r, 0, acc, p, h, hc => by
    have h : p ∈ (if TL.pre S (d :: r) = true then acc :: TL.spl S (S.length - 1) [] r else TL.spl S 0 (acc ++ [d]) r) := h
    split at h
    · rcases List.mem_cons.mp h with rfl | h
      · exact .inl hc
      · rcases spl_mem h hc with z | z
        · cases z
        · exact .inr (List.mem_cons_of_mem _ z)
    · rcases spl_mem h hc with z | z
      · rcases List.mem_append.mp z with z | z
        · exact .inl z
        · rw [List.mem_singleton.mp z]
          exact .inr List.mem_cons_self
      · exact .inr (List.mem_cons_of_mem _ z)
  | d :: r, k + 1, acc, p, h, hc => by
    rcases spl_mem (l := r) (k := k) h hc with z | z
    · exact .inl z
    · exact .inr (List.mem_cons_of_mem _ z)
theorem spl_len {S : List Nat} : ∀ {l : List Nat} {k : Nat} {acc p : List Nat}, p ∈ TL.spl S k acc l → p.length ≤ acc.length + l.length
  | [], k, acc, p, h => by
    rw [TL.spl_nil] at h
    rw [List.mem_singleton.mp h]
    omega
  | d :: r, 0, acc, p, h => by
    have h : p ∈ (if TL.pre S (d :: r) = true then acc :: TL.spl S (S.length - 1) [] r else TL.spl S 0 (acc ++ [d]) r) := h
    simp only [List.length_cons]
    split at h
    · rcases List.mem_cons.mp h with rfl | h
      · omega
      · have := spl_len h
        simp at this
        omega
    · have := spl_len h
      simp at this
      omega
  | d :: r, k + 1, acc, p, h => by
    have := spl_len (l := r) (k := k) h
    simp only [List.length_cons]
    omega
theorem spl_many {S : List Nat} : ∀ {l : List Nat} {k : Nat} {acc : List Nat}, (TL.spl S k acc l).length ≤ l.length + 1
  | [], k, acc => by
    rw [TL.spl_nil]
    simp
  | d :: r, 0, acc => by
    show (if TL.pre S (d :: r) = true then acc :: TL.spl S (S.length - 1) [] r else TL.spl S 0 (acc ++ [d]) r).length ≤ _
    split
    · have := spl_many (S := S) (l := r) (k := S.length - 1) (acc := [])
      simp
      omega
    · have := spl_many (S := S) (l := r) (k := 0) (acc := acc ++ [d])
      simp
      omega
  | d :: r, k + 1, acc => by
    have := spl_many (S := S) (l := r) (k := k) (acc := acc)
    show (TL.spl S k acc r).length ≤ _
    simp
    omega
theorem split_ok {x b : Str} (hx : StrOk x) (h1 : (b.length != 0) = true) (h2 : b.cps.all (· < 256) = true) : ∀ y ∈ Txt.split x b, StrOk y := by
  have hb : TL.tl b ≠ [] := fun z => by
    have := TL.len_tl b
    rw [z] at this
    simp [this] at h1
  have e := TL.split_spl x b hb (TL.kind_ok h2)
  intro y hy
  have hy2 : TL.tl y ∈ TL.spl (TL.tl b) 0 [] (TL.tl x) := by
    rw [← e]
    exact List.mem_map.mpr ⟨y, hy, rfl⟩
  refine ⟨?_, fun c hc => ?_⟩
  · have := spl_len hy2
    rw [TL.len_tl]
    have h3 := hx.1
    rw [TL.len_tl] at h3
    simp only [List.length_nil, Nat.zero_add] at this
    omega
  · rcases spl_mem hy2 hc with z | z
    · cases z
    · exact hx.2 c z
section
variable {α β : Type} {R : List Addr → Hp → β → α → Prop} {G : Gl} {P : Pg} {C : Tn.Call} {X : Cx} {W : WX} {n : Nat} {pins : List (Addr × Obj)} {σ : L2.St} {H : Hp} {s : Shared} {ι : List Addr} {m : Mu} {e : Env} {E : XK}
variable {a b c : Expr} {pos p p2 apos : Pos} {fa fb fc : Env → M Tn.W} {es : List Expr} {fl fk : Env → M (List Tn.W)}
theorem den_strs : ∀ {ys : List Str}, (∀ y ∈ ys, StrOk y) → DenL G ι H (ys.map V.str) (ys.map D.str)
  | [], _ => .nil
  | y :: r, h => .cons (.str (h y List.mem_cons_self)) (den_strs fun z hz => h z (List.mem_cons_of_mem _ hz))
theorem allS_den : ∀ {l : List D} {vs : List V} {ys : List Str}, allS l = some ys → DenL G ι H vs l → vs = ys.map V.str ∧ ∀ y ∈ ys, StrOk y
  | [], _, _, h, .nil => by cases h; exact ⟨rfl, fun _ z => by cases z⟩
  | d :: l, _, ys, h, .cons hd t => by
    cases d with
    | str x =>
      simp only [allS] at h
      cases e1 : allS l with
      | none => rw [e1] at h; cases h
      | some zs =>
        rw [e1] at h
        cases h
        obtain ⟨h1, h2⟩ := allS_den e1 t
        cases hd with
        | str hx =>
          refine ⟨by rw [h1]; rfl, fun y hy => ?_⟩
          rcases List.mem_cons.mp hy with rfl | hy
          · exact hx
          · exact h2 y hy
    | _ => cases h
/-- a text's method, by values -/
def smN : SM → Str
  | .join => Str.ofString "join"
  | .split => Str.ofString "split"
  | .rmp => Str.ofString "removeprefix"
  | .stw => Str.ofString "startswith"
  | .rpl => Str.ofString "replace"
  | .upp => Str.ofString "upper"
theorem pe_by {t1 t2 : TE} {x : Expr} (h : PE X x t1) (k : ∀ σ H Q, t2 σ H Q → t1 σ H Q) : PE X x t2 := ⟨fun pins s σ H Q I q => h.run pins s σ H Q I (k σ H Q q)⟩
/-- what a text's method with one text asks -/
def rSm (X : Cx) (k : SM) : V → List V → Hp → VK → Prop := match k with
  | .join => fun x xs H Q => ∃ a p, ∃ ys : List Str, x = .str a ∧ xs = [.ref p] ∧ (SqL X.K H p (ys.map V.str) ∨ SqT X.K H p (ys.map V.str)) ∧ (ys.map (·.length)).sum + ys.length * a.length ≤ 16777216 ∧ Q (.str (Txt.join a ys)) H
  | .split => fun x xs H Q => ∃ a b, x = .str a ∧ xs = [.str b] ∧ (b.length == 0) = false ∧ a.length + 2 ≤ sizeLine ∧ rNewStrs (Txt.split a b) H Q
  | .rmp => fun x xs H Q => ∃ a b, x = .str a ∧ xs = [.str b] ∧ a.length ≤ sizeLine ∧ Q (.str (Txt.removeprefix a b)) H
  | .stw => fun x xs H Q => ∃ a b, x = .str a ∧ xs = [.str b] ∧ Q (.bl (Txt.startswith a b)) H
  | _ => fun _ _ _ _ => False
theorem sm_cases {k : SM} {y0 : Str} {ws : List Tn.W} {wz : Tn.W} (h : smD k y0 ws = some wz) :
    (k = .join ∧ ∃ l ys, (ws = [.d (.lst l)] ∨ ws = [.d (.tup l)]) ∧ allS l = some ys ∧ joinB y0 ys = true ∧ wz = .d (.str (Txt.join y0 ys))) ∨
    (k = .split ∧ ∃ b, ws = [.d (.str b)] ∧ (b.length != 0 && b.cps.all (· < 256)) = true ∧ wz = .d (.lst ((Txt.split y0 b).map D.str))) ∨
    (k = .rmp ∧ ∃ b, ws = [.d (.str b)] ∧ sOkB (Txt.removeprefix y0 b) = true ∧ wz = .d (.str (Txt.removeprefix y0 b))) ∨
    (k = .stw ∧ ∃ b, ws = [.d (.str b)] ∧ wz = .d (.bl (Txt.startswith y0 b))) ∨ k = .upp ∨ k = .rpl := by
  unfold smD at h
  split at h
  · rename_i l
    cases e1 : allS l with
    | none => rw [e1] at h; cases h
    | some ys =>
      rw [e1] at h
      have h : (bif joinB y0 ys then some (Tn.W.d (.str (Txt.join y0 ys))) else none) = some wz := h
      cases e2 : joinB y0 ys with
      | false => rw [e2] at h; cases h
      | true => rw [e2] at h; cases h; exact .inl ⟨rfl, l, ys, .inl rfl, e1, e2, rfl⟩
  · rename_i l
    cases e1 : allS l with
    | none => rw [e1] at h; cases h
    | some ys =>
      rw [e1] at h
      have h : (bif joinB y0 ys then some (Tn.W.d (.str (Txt.join y0 ys))) else none) = some wz := h
      cases e2 : joinB y0 ys with
      | false => rw [e2] at h; cases h
      | true => rw [e2] at h; cases h; exact .inl ⟨rfl, l, ys, .inr rfl, e1, e2, rfl⟩
  · rename_i b'
    cases e2 : (b'.length != 0 && b'.cps.all (· < 256)) with
    | false => rw [e2] at h; cases h
    | true => rw [e2] at h; cases h; exact .inr (.inl ⟨rfl, b', rfl, e2, rfl⟩)
  · rename_i b'
    cases e2 : sOkB (Txt.removeprefix y0 b') with
    | false => rw [e2] at h; cases h
    | true => rw [e2] at h; cases h; exact .inr (.inr (.inl ⟨rfl, b', rfl, e2, rfl⟩))
  · rename_i b'
    cases h
    exact .inr (.inr (.inr (.inl ⟨rfl, b', rfl, rfl⟩)))
  · exact .inr (.inr (.inr (.inr (.inr rfl))))
  · exact .inr (.inr (.inr (.inr (.inl rfl))))
  · cases h
theorem s_sm1 (cx : Cok G P C X W n) {k : SM} {o z : Expr} {cpos : Pos} (hk : k ≠ .upp) (hk2 : k ≠ .rpl) (hst : nst z = true) (hbase : attributeBase o (smN k) X.env (eval o X.env) = eval o X.env) (hline : (apos.endLine == cpos.line) = true) (ho : PE X o (tM G W fa)) (hl : PA X [z] (tML G W fl)) :
    PE X (.Call (.Attribute o (smN k) apos) [z] [] cpos) (tM G W fun e => (fa e).bind fun x => (M.opt (strOf x)).bind fun y => (fl e).bind fun ws => M.opt (smD k y ws)) := by
  have sz := strTop_le
  have st : strTop = 4000000 := rfl
  have sl : sizeLine = 16777216 := by decide
  have base : PE X (.Call (.Attribute o (smN k) apos) [z] [] cpos) (tBM X.K "str" (rSm X k) (tM G W fa) (tML G W fl)) := by
    cases k with
    | join => exact pe_bm PySem.F.plainAttrs_str PySem.F.slot_str_join PySem.F.type_str_join mt_join ho hl hbase (by rw [star_cons hst]; rfl) hline (star_cons hst) rfl
    | split => exact pe_bm PySem.F.plainAttrs_str PySem.F.slot_str_split PySem.F.type_str_split mt_split ho hl hbase (by rw [star_cons hst]; rfl) hline (star_cons hst) rfl
    | rmp => exact pe_bm PySem.F.plainAttrs_str PySem.F.slot_str_removeprefix PySem.F.type_str_removeprefix mt_removeprefix ho hl hbase (by rw [star_cons hst]; rfl) hline (star_cons hst) rfl
    | stw => exact pe_bm PySem.F.plainAttrs_str PySem.F.slot_str_startswith PySem.F.type_str_startswith mt_startswith ho hl hbase (by rw [star_cons hst]; rfl) hline (star_cons hst) rfl
    | rpl => exact absurd rfl hk2
    | upp => exact absurd rfl hk
  refine pe_by base fun σ H Q ⟨ι, e, m, r, er, h⟩ => ?_
  refine ⟨ι, e, m, r, er, ?_⟩
  refine PostG.bind h fun w m1 x ι1 H1 _ ex1 r1 dx q1 => ?_
  obtain ⟨y, ey, qq⟩ := opt_bind q1
  clear q1
  cases w with
  | d w0 =>
    cases w0 with
    | str y0 =>
      obtain rfl : y0 = y := Option.some.inj ey
      cases dx with
      | str hy =>
      refine ⟨rfl, ι1, e, m1, r1, er.ex ex1, ?_⟩
      refine PostG.bind qq fun ws m2 vs ι2 H2 _z ex2 r2 dv q2 => ?_
      clear _z
      obtain ⟨wz, ez, q3⟩ := opt_post q2
      have one : ∀ {w0 : Tn.W}, ws = [w0] → ∃ v, vs = [v] ∧ DenW G ι2 H2 v w0 := fun {w0} ew => by
        subst ew
        cases vs with
        | nil => exact dv.elim
        | cons v vr =>
          cases vr with
          | cons _ _ => exact dv.2.elim
          | nil => exact ⟨v, rfl, dv.1⟩
      have h0 := hy.1
      rcases sm_cases ez with ⟨rfl, l, ys, hw, e1, e2, rfl⟩ | ⟨rfl, b', hw, e2, rfl⟩ | ⟨rfl, b', hw, e2, rfl⟩ | ⟨rfl, b', hw, rfl⟩ | rfl | rfl
      · have hz := of_decide_eq_true e2
        rcases hw with hw | hw
        · obtain ⟨v, rfl, dv1⟩ := one hw
          have dv1 : Den G ι2 H2 v (.lst l) := dv1
          cases dv1 with
          | lst h1 h2 h3 =>
            obtain ⟨rfl, hall⟩ := allS_den e1 h3
            exact ⟨y0, _, ys, rfl, rfl, .inl (.of h2), by omega, q3 _ ι2 H2 Ex.refl r2 (.str (join_ok hy hall e2))⟩
        · obtain ⟨v, rfl, dv1⟩ := one hw
          have dv1 : Den G ι2 H2 v (.tup l) := dv1
          cases dv1 with
          | tup h1 h3 =>
            obtain ⟨rfl, hall⟩ := allS_den e1 h3
            have sq := h1.sq
            rw [← cx.k] at sq
            exact ⟨y0, _, ys, rfl, rfl, .inr sq, by omega, q3 _ ι2 H2 Ex.refl r2 (.str (join_ok hy hall e2))⟩
      · obtain ⟨t1, t2⟩ := Bool.and_eq_true_iff.mp e2
        obtain ⟨v, rfl, dv1⟩ := one hw
        have dv1 : Den G ι2 H2 v (.str b') := dv1
        cases dv1 with
        | str hb =>
          refine ⟨y0, b', rfl, rfl, by simpa using t1, by omega, fun p hp => ?_⟩
          exact Post.new q3 r2 hp (newLst r2 hp (den_strs (split_ok hy t1 t2)))
      · obtain ⟨v, rfl, dv1⟩ := one hw
        have dv1 : Den G ι2 H2 v (.str b') := dv1
        cases dv1 with
        | str hb => exact ⟨y0, b', rfl, rfl, by omega, q3 _ ι2 H2 Ex.refl r2 (.str (sOkB_ok e2))⟩
      · obtain ⟨v, rfl, dv1⟩ := one hw
        have dv1 : Den G ι2 H2 v (.str b') := dv1
        cases dv1 with
        | str hb => exact ⟨y0, b', rfl, rfl, q3 _ ι2 H2 Ex.refl r2 (.bl _)⟩
      · exact absurd rfl hk
      · exact absurd rfl hk2
    | _ => cases ey
  | _ => cases ey
/-- text.replace where nothing is found -/
theorem mt_replace0 : MtR X "str.replace" (fun x xs H Q => ∃ a b c : Str, x = .str a ∧ xs = [.str b, .str c] ∧ (Builtin.Str.occurrences a b 0 a.length (a.length + 1)).isEmpty = true ∧ Q (.str a) H) := by
  intro pins s σ H x xs v us Q I rx rs h
  obtain ⟨a, b, c, rfl, rfl, he, h⟩ := h
  obtain ⟨t, rfl⟩ := rx
  cases rs with
  | cons r1 rs =>
    cases rs with
    | cons r2 rs =>
      cases rs
      obtain ⟨u, rfl⟩ := r1
      obtain ⟨z, rfl⟩ := r2
      have hc : ((Builtin.Str.occurrences a b 0 a.length (a.length + 1)).isEmpty || (b.length == 0 && c.length == 0)) = true := by rw [he]; rfl
      have g := PySem.gives_str_replace a b c t u z fun k => by rw [hc] at k; cases k
      rw [if_pos hc] at g
      exact PySem.call_gives PySem.F.slot_str_replace (typeIs_str _ _ _) PySem.F.entry_str_replace (PySem.F.args_str_replace_3 _ _ _) g ⟨.str a, H, I.tok _, ⟨t, rfl⟩, h⟩
theorem s_rpl (cx : Cok G P C X W n) {o z z2 : Expr} {cpos : Pos} (hst : nst z = true) (hst2 : nst z2 = true) (hbase : attributeBase o (smN .rpl) X.env (eval o X.env) = eval o X.env) (hline : (apos.endLine == cpos.line) = true) (ho : PE X o (tM G W fa)) (hl : PA X [z, z2] (tML G W fl)) :
    PE X (.Call (.Attribute o (smN .rpl) apos) [z, z2] [] cpos) (tM G W fun e => (fa e).bind fun x => (M.opt (strOf x)).bind fun y => (fl e).bind fun ws => M.opt (smD .rpl y ws)) := by
  have base := pe_bm (X := X) (apos := apos) PySem.F.plainAttrs_str PySem.F.slot_str_replace PySem.F.type_str_replace mt_replace0 ho hl hbase (by rw [star_cons hst, star_cons hst2]; rfl) hline (star_cons hst) (by rw [star_cons hst2]; rfl)
  refine pe_by base fun σ H Q ⟨ι, e, m, r, er, h⟩ => ?_
  refine ⟨ι, e, m, r, er, ?_⟩
  refine PostG.bind h fun w m1 x ι1 H1 _ ex1 r1 dx q1 => ?_
  obtain ⟨y, ey, qq⟩ := opt_bind q1
  clear q1
  cases w with
  | d w0 =>
    cases w0 with
    | str y0 =>
      obtain rfl : y0 = y := Option.some.inj ey
      cases dx with
      | str hy =>
      refine ⟨rfl, ι1, e, m1, r1, er.ex ex1, ?_⟩
      refine PostG.bind qq fun ws m2 vs ι2 H2 _z ex2 r2 dv q2 => ?_
      clear _z
      obtain ⟨wz, ez, q3⟩ := opt_post q2
      unfold smD at ez
      split at ez
      any_goals (first | (exfalso; rename_i heq _; cases heq; done) | skip)
      all_goals try contradiction
      rename_i b c _
      cases e2 : (Builtin.Str.occurrences y0 b 0 y0.length (y0.length + 1)).isEmpty with
      | false => rw [e2] at ez; cases ez
      | true =>
        rw [e2] at ez
        cases ez
        cases vs with
        | nil => exact dv.elim
        | cons v vr =>
          cases vr with
          | nil => exact dv.2.elim
          | cons v2 vr =>
            cases vr with
            | cons _ _ => exact dv.2.2.elim
            | nil =>
              have d1 : Den G ι2 H2 v (.str b) := dv.1
              have d2 : Den G ι2 H2 v2 (.str c) := dv.2.1
              cases d1 with
              | str hb =>
                cases d2 with
                | str hc => exact ⟨y0, b, c, rfl, rfl, e2, q3 _ ι2 H2 Ex.refl r2 (.str hy)⟩
    | _ => cases ey
  | _ => cases ey
theorem s_sm0 (cx : Cok G P C X W n) {o : Expr} {cpos : Pos} (hbase : attributeBase o (smN .upp) X.env (eval o X.env) = eval o X.env) (hline : (apos.endLine == cpos.line) = true) (ho : PE X o (tM G W fa)) :
    PE X (.Call (.Attribute o (smN .upp) apos) [] [] cpos) (tM G W fun e => (fa e).bind fun x => (M.opt (strOf x)).bind fun y => (M.ret []).bind fun ws => M.opt (smD .upp y ws)) := by
  have st : strTop = 4000000 := rfl
  refine pe_by (pe_upper ho hbase hline) fun σ H Q ⟨ι, e, m, r, er, h⟩ => ?_
  refine ⟨ι, e, m, r, er, ?_⟩
  refine PostG.bind h fun w m1 x ι1 H1 _ ex1 r1 dx q1 => ?_
  obtain ⟨y, ey, q1⟩ := opt_bind q1
  cases w with
  | d w0 =>
    cases w0 with
    | str y0 =>
      obtain rfl : y0 = y := Option.some.inj ey
      cases dx with
      | str hy =>
        obtain ⟨wz, ez, q3⟩ := opt_post (o := smD .upp y0 []) q1
        simp only [smD] at ez
        cases e2 : sOkB (Txt.upper y0) with
        | false => rw [e2] at ez; cases ez
        | true =>
          rw [e2] at ez
          cases ez
          have h0 := hy.1
          exact ⟨⟨y0, rfl⟩, y0, rfl, rfl, by omega, q3 _ ι1 H1 Ex.refl r1 (.str (sOkB_ok e2))⟩
    | _ => cases ey
  | _ => cases ey
/-! ### displays with stars -/
def tSt (G : Gl) (W : WX) : (Env → M (List Tn.W)) → TA := tML G W
theorem a_star (cx : Cok G P C X W n) {z : Expr} {sp : Pos} {fr : Env → M (List Tn.W)} (ha : PE X z (tM G W fa)) (hr : PA X es (tML G W fr)) : PA X (.Starred z sp :: es) (tML G W fun e => (fa e).bind fun x => (M.opt (seqD x)).bind fun xs => (fr e).bind fun ys => M.ret (xs ++ ys)) := by
  refine ⟨fun pos pins s σ H Q I ⟨ι, e, m, r, er, h⟩ => (StX.pa_star ha hr rfl).run pos pins s σ H Q I ⟨ι, e, m, r, er, ?_⟩⟩
  refine PostG.bind h fun w m1 x ι1 H1 _ ex1 r1 dx q1 => ?_
  obtain ⟨xs, ey, q1⟩ := opt_bind q1
  have fin : ∀ {vs : List V} {ds : List D}, DenL G ι1 H1 vs ds → xs = ds.map Tn.W.d → tML G W fr σ H1 fun ys H2 => Q (vs ++ ys) H2 := fun {vs ds} dl ex => by
    refine ⟨ι1, e, m1, r1, er.ex ex1, ?_⟩
    refine PostG.bind q1 fun ys m2 us ι2 H2 _ ex2 r2 du q2 => ?_
    refine q2 _ ι2 H2 Ex.refl r2 ?_
    subst ex
    exact DenWs.append (dl.ex ex2).ws du
  unfold seqD at ey
  split at ey
  · cases ey
    cases dx with
    | tup q l =>
      have sq := q.sq
      rw [← cx.k] at sq
      exact ⟨_, _, rfl, .inl sq, fin l rfl⟩
  · cases ey
    cases dx with
    | lst q e1 l => exact ⟨_, _, rfl, .inr (.of e1), fin l rfl⟩
  · cases ey
theorem s_std {tp : Bool} {fr : Env → M (List Tn.W)} {kk : Nat} (ha : PA X es (tML G W fr)) : PE X (bif tp then .Tuple es kk pos else .List es pos) (tM G W fun e => (fr e).bind fun ws => (M.opt (datOf ws)).bind fun ds => bif decide (ds.length ≤ strTop) then M.ret (.d (bif tp then .tup ds else .lst ds)) else M.no) := by
  have sz := strTop_le
  have red : ∀ (mk : List V → HO) (nw : ∀ {ι : List Addr} {H : Hp} {m : Mu} {p : Addr} {vs : List V} {ds : List D}, MRel G ι H m → H p = none → DenL G ι H vs ds → Den G ι (upd H p (mk vs)) (.ref p) (bif tp then .tup ds else .lst ds)) (σ : L2.St) (H : Hp) (Q : VK),
      tM G W (fun e => (fr e).bind fun ws => (M.opt (datOf ws)).bind fun ds => bif decide (ds.length ≤ strTop) then M.ret (.d (bif tp then .tup ds else .lst ds)) else M.no) σ H Q → tML G W fr σ H fun xs H1 => xs.length ≤ sizeLine ∧ ∀ p, H1 p = none → Q (.ref p) (upd H1 p (mk xs)) := fun mk nw σ H Q ⟨ι, e, m, r, er, h⟩ => by
    refine ⟨ι, e, m, r, er, ?_⟩
    refine PostG.bind h fun ws m1 vs ι1 H1 _ ex1 r1 dv q1 => ?_
    obtain ⟨ds, ed, q1⟩ := opt_bind q1
    cases el : decide (ds.length ≤ strTop) with
    | false => rw [el] at q1; exact q1.elim
    | true =>
      rw [el] at q1
      have el := of_decide_eq_true el
      have dl := dv.dat ed
      refine ⟨by rw [dl.length]; omega, fun p hp => ?_⟩
      exact Post.new q1 r1 hp (nw r1 hp dl)
  cases tp with
  | true => exact pe_by (pe_tup ha) fun σ H Q h => red .tup (fun r hp d => newTup r hp d) σ H Q h
  | false => exact pe_by (pe_lst ha) fun σ H Q h => red .lst (fun r hp d => newLst r hp d) σ H Q h
/-! ### f-strings -/
def fmtB : Expr → Bool
  | .Constant (.str _) _ _ => true
  | .FormattedValue _ (-1) none _ => true
  | _ => false
def fmtE : Expr → Expr
  | .FormattedValue x _ _ _ => x
  | x => x
end
end Tn

set_option Elab.async false
set_option linter.all false
set_option maxRecDepth 100000
set_option maxHeartbeats 1000000
namespace Tn
open PySem PySem.Spec PyProof.Rows L2
section
variable {α β : Type} {R : List Addr → Hp → β → α → Prop} {G : Gl} {P : Pg} {C : Tn.Call} {X : Cx} {W : WX} {n : Nat} {pins : List (Addr × Obj)} {σ : L2.St} {H : Hp} {s : Shared} {ι : List Addr} {m : Mu} {e : Env} {E : XK}
variable {a b c : Expr} {pos p p2 apos : Pos} {fa fb fc : Env → M Tn.W} {es : List Expr} {fl fk : Env → M (List Tn.W)}
/-! ### static methods -/
theorem s_smc (cx : Cok G P C X W n) {g f h : Nat} {cc : Nat} {pl : Sem Bool} (hg : L2.Gl X (G.gn g)) (hd : (G.gn g == ("__debug__" : Str)) = false) (eg : P.glo[g]? = some (.cls cc)) (es_ : P.stat cc f = some h) (hst : nsts es = true) (h0 : es = [] → ∀ e, fl e = M.ret []) (hl : PA X es (tML G W fl))
    (ht : eval (.Call (.Attribute (.Name (G.gn g) p) (G.nm f) apos) es [] pos) X.env = (do
      let ov ← eval (.Name (G.gn g) p) X.env
      standAt apos.atName
      let (f, first) ← holding [ov] (getMethod ov (G.nm f) pl)
      callWith pos f first (backTo pos (starEach es X.env)) (backToKw pos (keywordEach [] X.env)))) :
    PE X (.Call (.Attribute (.Name (G.gn g) p) (G.nm f) apos) es [] pos) (tM G W fun e => (fl e).bind fun ws => C.hi h ws) := by
  refine ⟨fun pins s σ H Q I ⟨ι, e, m, r, er, hp⟩ => ?_⟩
  obtain ⟨k, ek, el⟩ : ∃ k, P.cls[cc]? = some k ∧ k.stats.lookup f = some h := by
    unfold Pg.stat at es_
    cases ec : P.cls[cc]? with
    | none => rw [ec] at es_; cases es_
    | some k => rw [ec] at es_; exact ⟨k, rfl, es_⟩
  have cg := cx.good.cls cc k ek
  obtain ⟨pb, st⟩ := cg.stat f h el
  rw [← cx.k] at st
  obtain ⟨pa, rest, fd, rc⟩ := st.fd
  have nm : PE X (.Name (G.gn g) p) (tC (.ref (G.ca cc))) := pe_glob hg (cx.good.glo g _ eg) rfl hd
  refine PySem.W.methodCall_KW (pl := pl) (thn (nm.run pins s σ H (fun x H1 => x = .ref (G.ca cc) ∧ H1 = H) I ⟨rfl, rfl⟩) fun u s1 ⟨x, H1, I1, rx, ex, eH⟩ => ?_) ht
  subst ex
  subst eH
  cases rx
  refine PySem.W.method_cls I1.kIn st.ga (PySem.W.cls_bind I1.kIn st.rd fd (wpAny_call (PySem.W.sm_get (s := { s1 with toks := s1.toks + 1 }) I1.kIn rc (PySem.W.handed_on rfl ?_))))
  have I2 : Inv X pins σ H1 { s1 with toks := s1.toks + 1 } := I1.tok _
  cases es with
  | nil =>
    have hp2 : Post G ι H1 (((fl e).bind fun ws => C.hi h ws) m) Q fun c d H' => W c d σ H' := hp
    rw [h0 rfl e] at hp2
    have hp : Post G ι H1 (C.hi h [] m) Q fun c d H' => W c d σ H' := hp2
    exact PySem.W.callWith_K0 I2.kIn st.kp (hi_ok (us := []) (vs := []) (ws := []) cx pb I2 r .nil trivial hp)
  | cons a es =>
    obtain ⟨h3, h4⟩ := Bool.and_eq_true_iff.mp hst
    refine PySem.W.callWith_K (first := []) (h₀ := X.base) I.ok.mod.kin st.kp (thn (goA hl pos I2 r er hp) fun us s2 ⟨vs, ws, ι2, H2, m2, I3, rv, dv, r2, er2, ex2, h2⟩ => ⟨I3.kIn, ?_⟩) (star_cons h3) (star_any h4)
    exact hi_ok (us := us) (vs := vs) (ws := ws) cx pb I3 r2 rv dv h2
/-! ### x.extend(b) -/
theorem x_ext {o : Expr} {cpos : Pos} (ho : PE X o (tM G W fa)) (hb : PE X b (tM G W fb)) (hst : nst b = true) (hbase : attributeBase o (Str.ofString "extend") X.env (eval o X.env) = eval o X.env) (hline : (apos.endLine == cpos.line) = true) (hs : swapsWith (.Call (.Attribute o (Str.ofString "extend") apos) [b] [] cpos) none pos.line X.env = pure false) :
    PS X (.Expr (.Call (.Attribute o (Str.ofString "extend") apos) [b] [] cpos) pos) (tX G W fun e m => Out.ofR e (fa e m) fun o m1 => (match o with
    | .r j => (match m1[j]? with
      | some (.lst _) => Out.ofR e (fb e m1) fun w m2 => (match m2[j]?, w with
        | some (.lst l), .d (.lst ds) => bif decide (l.length + ds.length ≤ strTop) then .nx e (m2.set j (.lst (l ++ ds.map .d))) else .st
        | _, _ => .st)
      | _ => .st)
    | _ => .st)) := by
  have mt : MtR X "list.extend" rExtend := fun pins s σ H x xs v us Q I rx rxs h => mt_extend pins s σ H x xs v us Q I rx rxs h
  have fe : PE X (.Call (.Attribute o (Str.ofString "extend") apos) [b] [] cpos) (tBM X.K "list" rExtend (tM G W fa) _) :=
    pe_bm PySem.F.plainAttrs_list PySem.F.slot_list_extend PySem.F.type_list_extend mt ho (pa_cons hb pa_nil (star_cons hst)) hbase (by rw [star_cons hst]; rfl) hline (star_cons hst) rfl
  refine ⟨fun pins s σ H D I ⟨ι, e, m, r, er, h⟩ => (ps_expr fe hs).run pins s σ H D I ⟨ι, e, m, r, er, ?_⟩⟩
  refine ofR h er fun w m1 x ι1 H1 _ x1 r1 dx er1 p1 => ?_
  cases w with
  | d _ => exact p1.elim
  | lam _ _ => exact p1.elim
  | r j =>
  obtain ⟨q, eq, rfl⟩ := dx
  simp only at p1
  cases em : m1[j]? with
  | none => rw [em] at p1; exact p1.elim
  | some o =>
  cases o with
  | dic _ => rw [em] at p1; exact p1.elim
  | ins _ _ => rw [em] at p1; exact p1.elim
  | lst l0 =>
  rw [em] at p1
  simp only at p1
  obtain ⟨vs0, e0, d0⟩ := r1.ok j q _ eq em
  refine ⟨.inl ⟨rfl, vs0, .of e0⟩, ι1, e, m1, r1, er1, ?_⟩
  refine ofR p1 er1 fun w2 m2 y ι2 H2 _ x2 r2 dy er2 p2 => ?_
  have eq2 := x2.get eq
  cases em2 : m2[j]? with
  | none => rw [em2] at p2; exact p2.elim
  | some o =>
  cases o with
  | dic _ => rw [em2] at p2; exact p2.elim
  | ins _ _ => rw [em2] at p2; exact p2.elim
  | lst l2 =>
  rw [em2] at p2
  cases w2 with
  | r _ => exact p2.elim
  | lam _ _ => exact p2.elim
  | d dd =>
  cases dd with
  | lst ds =>
    simp only at p2
    cases el : decide (l2.length + ds.length ≤ strTop) with
    | false => rw [el] at p2; exact p2.elim
    | true =>
    rw [el] at p2
    have el := of_decide_eq_true el
    obtain ⟨vs2, e2, d2⟩ := r2.ok j q _ eq2 em2
    have mq : q ∈ ι2 := List.mem_of_getElem? eq2
    have sz := strTop_le
    cases dy with
    | lst n1 e3 dl =>
      rename_i a3 vs3
      have exW : Ex ι2 H2 ι2 (upd H2 q (.lst (vs2 ++ vs3))) := Ex.write mq (r2.nofrz mq)
      refine ⟨q, a3, vs2, vs3, rfl, rfl, e2, e3, by rw [d2.length, dl.length]; omega, ?_⟩
      exact p2 σ ι2 _ exW (r2.write eq2 ⟨_, upd_same, (d2.ex exW).append (dl.ex exW).ws⟩) (er2.ex exW)
  | _ => exact p2.elim
/-! ### enumerate -/
theorem it_enum {K : PySem.W.Frag} {a : Addr} {vs : List V} {ds : List D} (hl : ∀ ι' H', Ex ι H ι' H' → SqL K H' a vs) (d : DenL G ι H vs ds) : ItOk G ι H (Ite K a) (ds.mapIdx fun i x => Tn.W.d (.tup [.int i, x])) := by
  have len : (ds.mapIdx fun i x => Tn.W.d (.tup [.int i, x])).length = vs.length := by rw [List.length_mapIdx, d.length]
  refine ⟨fun i ι' H' m' x r hi => ?_, fun i ι' H' m' v H'' x r hi hy => ?_, fun i ι' H' m' x r hi => ⟨vs, hl _ _ x, by rw [← len]; exact hi⟩⟩
  · have hi2 : i < vs.length := by rw [← len]; exact hi
    exact ⟨vs, vs[i], hl _ _ x, List.getElem?_eq_getElem hi2⟩
  · obtain ⟨T, y, rfl, hT, rfl, hy⟩ := hy
    have e1 := hy vs (hl _ _ x)
    have hi2 : i < ds.length := by rw [← d.length]; exact (List.getElem?_eq_some_iff.mp e1).1
    obtain ⟨u, eu, du⟩ := d.get (List.getElem?_eq_getElem hi2)
    rw [e1] at eu
    cases eu
    refine ⟨.d (.tup [.int i, ds[i]]), by rw [List.getElem?_mapIdx, List.getElem?_eq_getElem hi2]; rfl, Ex.new r hT, r.new hT, ?_⟩
    exact newTup r hT (.cons (.int _) (.cons (du.ex x) .nil))
theorem i_enum (cx : Cok G P C X W n) {elts : List Expr} {kk : Nat} {tpos : Pos} (hg : L2.Gl X (Str.ofString "enumerate")) (hst : nst a = true) (ha : PE X a (tM G W fa)) : PI X (.Tuple elts kk tpos) (.Call (.Name (Str.ofString "enumerate") p) [a] [] pos) (tMI G W fun e => (fa e).bind fun x => M.opt (enumD x)) := by
  have m1 : X.mg (Str.ofString "enumerate") = none := cx.good.free _ (by simp [bltNs])
  refine ⟨fun pins s σ H R I ⟨ι, e, m, r, er, h⟩ => ?_⟩
  refine (pi_enum hg m1 (pa_cons ha pa_nil (star_cons hst)) (star_cons hst)).run pins s σ H R I ⟨ι, e, m, r, er, ?_⟩
  refine PostG.bind h fun w m1 x ι1 H1 _z ex r1 dx q => ?_
  clear _z
  unfold enumD at q
  split at q
  · cases dx with
    | lst n1 e1 dl => exact ⟨_, _, rfl, .of e1, q _ ι1 H1 Ex.refl r1 (it_enum (fun ι' H' x => sqL_ex n1 e1 x) dl)⟩
  · exact q.elim
/-- a new dict that is told of -/
theorem MRel.pushD (r : MRel G ι H m) {x : Addr} (hx : H x = none) : MRel G (ι ++ [x]) (upd H x (.dK [])) (m ++ [.dic []]) ∧ Ex ι H (ι ++ [x]) (upd H x (.dK [])) := by
  have nx : x ∉ ι := r.fresh hx
  have ex : Ex ι H (ι ++ [x]) (upd H x (.dK [])) := by
    refine ⟨List.prefix_append _ _, fun {a o u} e => ?_, fun a o ha e _ => ⟨fun z => ?_, ?_⟩⟩
    · rw [upd_ne (ne_of_none e hx)]; exact e
    · rcases List.mem_append.mp z with z | z
      · exact ha z
      · rw [List.mem_singleton.mp z] at e
        rw [hx] at e
        cases e
    · rw [upd_ne (ne_of_none e hx)]; exact e
  refine ⟨⟨?_, by simp [r.len], fun i a o h1 h2 => ?_, r.tb.ext fun b o e => by rw [upd_ne (ne_of_none e hx)]; exact e⟩, ex⟩
  · exact List.nodup_append.mpr ⟨r.nd, by simp, fun a ha b hb => by rw [List.mem_singleton.mp hb]; exact fun z => nx (z ▸ ha)⟩
  · by_cases hi : i < ι.length
    · rw [List.getElem?_append_left hi] at h1
      rw [List.getElem?_append_left (by rw [← r.len]; exact hi)] at h2
      exact (r.ok i a o h1 h2).ex ex (upd_ne (fun z => nx (z ▸ List.mem_of_getElem? h1)))
    · have e0 : i = ι.length := by
        have := (List.getElem?_eq_some_iff.mp h1).1
        simp at this
        omega
      subst e0
      rw [List.getElem?_append_right (Nat.le_refl _)] at h1
      rw [r.len, List.getElem?_append_right (Nat.le_refl _)] at h2
      have e1 : x = a := by simpa using h1
      have e2 : MO.dic [] = o := by simpa using h2
      subst e1 e2
      exact ⟨[], upd_same, rfl, trivial⟩
/-- {'x': a} -/
theorem s_dc1 {x : Str} {j : Nat} (ha : PE X a (tM G W fa)) : PE X (.Dict [some (.Constant (.str x) j p)] [a] pos) (tM G W fun e m => dcF x m.length (fa e (m ++ [.dic []]))) := by
  refine ⟨fun pins s σ H Q I ⟨ι, e, m, r, er, h⟩ => (pe_disp (pps_cons pe_str ha pps_nil) rfl rfl (by simp) (by simp)).run pins s σ H Q I fun q hq => ?_⟩
  obtain ⟨rq, exq⟩ := r.pushD hq
  refine ⟨ι ++ [q], e, m ++ [.dic []], rq, er.ex exq, ?_⟩
  have h : Post G ι H (dcF x m.length (fa e (m ++ [.dic []]))) Q fun c d H' => W c d σ H' := h
  cases ef : fa e (m ++ [.dic []]) with
  | stuck => rw [ef] at h; exact h.elim
  | exc c v m1 =>
    rw [ef] at h
    intro ι1 H1 cls dd ex1 r1 hx
    simp only [dcF] at h
    cases ec : cutMu m.length m1 with
    | none => rw [ec] at h; exact h.elim
    | some m2 =>
      rw [ec] at h
      have r2 := r1.cut ec
      have ex2 := exq.trans ex1
      have et : ι1.take m.length = ι := by rw [← r.len]; exact ex2.take
      rw [et] at r2
      refine h ι H1 cls dd ex2.down r2 ?_
      obtain ⟨h1, d, v', h2, h3, h4, h5⟩ := hx
      have sub : ∀ a, a ∈ ι → a ∈ ι1 := fun a ha => by rw [← et] at ha; exact List.mem_of_mem_take ha
      exact ⟨h1, d, v', h2, fun z => h3 (sub _ z), h4, h5.less sub⟩
  | ok w m1 =>
    rw [ef] at h
    intro v ι1 H1 ex1 r1 dv
    cases w with
    | r _ => exact h.elim
    | lam _ _ => exact h.elim
    | d d =>
      simp only [dcF] at h
      cases eo : m1[m.length]? with
      | none => rw [eo] at h; exact h.elim
      | some o =>
      rw [eo] at h
      cases o with
      | lst _ => exact h.elim
      | ins _ _ => exact h.elim
      | dic kws =>
      cases kws with
      | cons _ _ => exact h.elim
      | nil =>
      cases ec : cutMu m.length m1 with
      | none => rw [ec] at h; exact h.elim
      | some m2 =>
        rw [ec] at h
        simp only at h
        cases es : sOkB x with
        | false => rw [es] at h; exact h.elim
        | true =>
        rw [es] at h
        have h : Post G ι H (.ok (.d (.dic [(Sum.inr x, d)])) m2) Q fun c d H' => W c d σ H' := h
        have ex2 := exq.trans ex1
        have et : ι1.take m.length = ι := by rw [← r.len]; exact ex2.take
        have sub : ∀ a, a ∈ ι → a ∈ ι1 := fun a ha => by rw [← et] at ha; exact List.mem_of_mem_take ha
        have aq : ι1[m.length]? = some q := ex1.get (by rw [← r.len]; simp)
        have mq : q ∈ ι1 := List.mem_of_getElem? aq
        have nq : q ∉ ι := r.fresh hq
        obtain ⟨kvs, k1, k2, _⟩ := r1.ok _ _ _ aq eo
        have k3 : kvs = [] := by simpa using k2
        subst k3
        refine ⟨k1, [(.inr x, v)], rfl, by simp, ?_⟩
        show Q (.ref q) (upd H1 q (.dK [(.inr x, v)]))
        have exW : Ex ι1 H1 ι1 (upd H1 q (.dK [(.inr x, v)])) := Ex.write mq (r1.nofrz mq)
        have dv2 : Den G ι1 (upd H1 q (.dK [(.inr x, v)])) v d := Den.ex exW dv
        have r2 : MRel G ι1 (upd H1 q (.dK [(.inr x, v)])) (m1.set m.length (.dic [(.inr x, .d d)])) := r1.write aq ⟨[(.inr x, v)], upd_same, rfl, dv2, trivial⟩
        have ec2 : cutMu m.length (m1.set m.length (.dic [(.inr x, .d d)])) = some m2 := by
          rw [← ec]
          unfold cutMu
          rw [List.take_set_of_le (Nat.le_refl _)]
        have r3 := r2.cut ec2
        rw [et] at r3
        refine h (.ref q) ι _ (ex2.trans exW).down r3 (Den.dic nq upd_same rfl (fun z hz => ?_) (.cons (Den.less sub dv2) .nil))
        have : z = (.inr x, d) := by simpa using hz
        rw [this]
        exact sOkB_ok es
end
end Tn

set_option Elab.async false
set_option linter.all false
set_option maxRecDepth 100000
namespace Tn
open PySem PySem.Spec PyProof.Rows L2

/-! ### the check -/
structure Ck where
  N : List Str
  sc : Scope
  st : Scope
  ml : Bool
  lc : Nat → List Str → Arguments → Expr → Scope → Bool
def visB (sc : Scope) (x : Str) : Bool := match sc.names.lookup x with
  | some .local => true
  | some .cell => true
  | some .free => true
  | _ => false
def locB (sc : Scope) (x : Str) : Bool := match sc.names.lookup x with
  | some .local => true
  | some .cell => true
  | _ => false
def lclB (sc : Scope) (x : Str) : Bool := match sc.names.lookup x with
  | some .local => true
  | _ => false
def glB (sc : Scope) (x : Str) : Bool := match sc.names.lookup x with
  | some .globalImplicit => true
  | _ => false
def dbgB (x : Str) : Bool := !(x == ("__debug__" : Str)) && !(x == ("__classdict__" : Str))
def strB (x : Str) : Bool := decide (x.length ≤ strTop) && x.cps.toList.all fun c => decide (c < 16 ^ 8)
def cstB : D → Const → Bool
  | .non, .none => true
  | .bl b, .bool c => b == c
  | .int i, .int j => decide (i = j)
  | .str x, .str y => decide (x = y) && strB x
  | _, _ => false
def noSup : Expr → Bool
  | .Call (.Name _ _) [] [] _ => false
  | _ => true
def notSlice : Expr → Bool
  | .Slice _ _ _ _ => false
  | _ => true
def notSet : Expr → Bool
  | .Set _ _ _ => false
  | _ => true
def tstB : E → Bool
  | .ite _ _ _ => false
  | .any => false
  | _ => true
def ownP (N : List Str) (own : List Nat) : List (Str × Nat) := own.map fun i => (N.getD i Str.empty, i)
def opB : CmpOp → Bool
  | .In => false
  | .NotIn => false
  | _ => true
section
variable (P : Pg) (nm gn : Nat → Str)
def callB (g : Nat) : Bool := match P.glo[g]? with
  | some (.fn _) => true
  | some (.cls c) => (P.cls[c]?).isSome
  | _ => false
def gloB (g : Nat) : Bool := match P.glo[g]? with
  | some (.cst _) => true
  | _ => false
def excB (g : Nat) : Bool := match P.glo[g]? with
  | some (.exc _) => true
  | _ => false
def fnB (g : Nat) : Bool := match P.glo[g]? with
  | some (.fn _) => true
  | _ => false
def statB (g f : Nat) : Bool := match P.glo[g]? with
  | some (.cls c) => (P.stat c f).isSome
  | _ => false
/-- a lambda's written place: what it takes along -/
def clamB (k : Ck) (caps : List Nat) (params : Arguments) (scope : Scope) : Bool :=
  (params.defaults.isEmpty && params.kw_defaults.isEmpty) && ((scope.names.all fun y => !decide (y.2 = .free) || decide (k.sc.names.lookup y.1 = some .cell)) && caps.all fun i => match k.N[i]? with
    | some x => decide ((x, NameKind.free) ∈ scope.names)
    | none => false)
def kwB : List Keyword → List Nat → Bool
  | [], [] => true
  | ⟨some x, _, _⟩ :: r, k :: ks => decide (x = nm k) && kwB r ks
  | _, _ => false
def ctB (ct : Ct) (g : Nat) (k : Ck) (x : Str) : Bool := match ct with
  | .int => decide (x = Str.ofString "int") && glB k.sc x
  | .bool => decide (x = Str.ofString "bool") && glB k.sc x
  | .str => decide (x = Str.ofString "str") && glB k.sc x
  | .tup => decide (x = Str.ofString "tuple") && glB k.sc x
  | .lst => decide (x = Str.ofString "list") && glB k.sc x
  | .dic => decide (x = Str.ofString "dict") && glB k.sc x
  | .own c => decide (x = gn g) && glB k.sc x && dbgB x && (match P.glo[g]? with | some (.cls c') => c == c' | _ => false)
  | .exc c => decide (x = gn g) && glB k.sc x && dbgB x && (match P.glo[g]? with | some (.exc c') => c == c' | _ => false)
  | .ve => decide (x = Str.ofString "ValueError") && glB k.sc x
def tgB (k : Ck) : Tg → Expr → Bool
  | .nm i, .Name x _ => decide (k.N[i]? = some x) && locB k.st x
  | .tp l, .Tuple es _ _ => go l es
  | _, _ => false
where go : List Nat → List Expr → Bool
  | [], [] => true
  | i :: l, .Name x _ :: es => decide (k.N[i]? = some x) && locB k.st x && go l es
  | _, _ => false
mutual
def cE : E → Ck → Expr → Bool
  | .any, _, _ => true
  | .var i, k, e => (match e with
    | .Name x _ => decide (k.N[i]? = some x) && (visB k.sc x && dbgB x)
    | _ => false)
  | .cst d, _, e => (match e with
    | .Constant c _ _ => cstB d c
    | _ => false)
  | .glo g, k, e => (match e with
    | .Name x _ => decide (x = gn g) && (glB k.sc x && (dbgB x && gloB P g))
    | _ => false)
  | .bin op a b, k, e => (match e with
    | .BinOp l o r _ => decide (op = o) && (cE a k l && cE b k r)
    | _ => false)
  | .neg a, k, e => (match e with
    | .UnaryOp .USub x _ => cE a k x
    | _ => false)
  | .inv a, k, e => (match e with
    | .UnaryOp .Invert x _ => cE a k x
    | _ => false)
  | .cmp op a b, k, e => (match e with
    | .Compare l [o] [r] _ => decide (op = o) && (!behindInMarks o r && (cE a k l && cE b k r))
    | _ => false)
  | .chn o1 o2 a b c, k, e => (match e with
    | .Compare l [p1, p2] [x, y] _ => (decide (o1 = p1) && decide (o2 = p2)) && (!lastMarks [p1, p2] [x, y] && (cE a k l && (cE b k x && cE c k y)))
    | _ => false)
  | .and l, k, e => (match e with
    | .BoolOp .And es _ => cB l k es
    | _ => false)
  | .or l, k, e => (match e with
    | .BoolOp .Or es _ => cB l k es
    | _ => false)
  | .not a, k, e => (match e with
    | .UnaryOp .Not x _ => tstB a && cE a k x
    | _ => false)
  | .ite c a b, k, e => (match e with
    | .IfExp t x y _ => tstB c && (cE c k t && (cE a k x && cE b k y))
    | _ => false)
  | .tup l, k, e => (match e with
    | .Tuple es _ _ => decide (es.length ≤ strTop) && cEs l k es
    | _ => false)
  | .lst l, k, e => (match e with
    | .List es _ => decide (es.length ≤ strTop) && cEs l k es
    | _ => false)
  | .atr a f, k, e => (match e with
    | .Attribute x y _ => decide (y = nm f) && (noSup x && cE a k x)
    | _ => false)
  | .sub a i, k, e => (match e with
    | .Subscript x y _ => notSlice y && (cE a k x && cE i k y)
    | _ => false)
  | .slc a lo hi, k, e => (match e with
    | .Subscript x (.Slice l h none _) _ => cE a k x && (cO lo k l && cO hi k h)
    | _ => false)
  | .call g l ks lk, k, e => (match e with
    | .Call (.Name x _) es kws _ => (decide (x = gn g) && (glB k.sc x && dbgB x)) && ((callB P g && kwB nm kws ks) && (cEs l k es && cEs lk k (kws.map (·.value))))
    | _ => false)
  | .mth a f l, k, e => (match e with
    | .Call (.Attribute x y ap) es [] pos => (decide (y = nm f) && (noSup x && (ap.endLine == pos.line && decide (es.length < 29)))) && (cE a k x && cEs l k es)
    | _ => false)
  | .cal i l, k, e => (match e with
    | .Call (.Name x _) (a :: es) [] _ => (decide (k.N[i]? = some x) && (visB k.sc x && dbgB x)) && cEs l k (a :: es)
    | _ => false)
  | .blt b l, k, e => (match e with
    | .Call (.Name x _) (a :: es) [] _ => (decide (x = bltN b) && (decide (b ≠ .lrng) && glB k.sc x)) && cEs l k (a :: es)
    | _ => false)
  | .lrg a, k, e => (match e with
    | .Call (.Name x _) [.Call (.Name y _) [z] [] _] [] _ => (decide (x = Str.ofString "list") && decide (y = Str.ofString "range")) && ((glB k.sc x && glB k.sc y) && (nst z && cE a k z))
    | _ => false)
  | .lcal i, k, e => (match e with
    | .Call (.Name x _) [] [] _ => decide (k.N[i]? = some x) && (visB k.sc x && dbgB x)
    | _ => false)
  | .clam g f caps l, k, e => (match e with
    | .Call (.Name x _) (.Lambda params body scope _ :: es) [] _ => ((k.ml && (decide (x = gn g) && (glB k.sc x && dbgB x))) && (fnB P g && k.lc f (caps.map fun i => k.N.getD i Str.empty) params body scope)) && (clamB k caps params scope && cEs l k es)
    | _ => false)
  | .mkx g a, k, e => (match e with
    | .Call (.Name x _) [y] [] _ => (decide (x = gn g) && (glB k.sc x && dbgB x)) && (excB P g && (nst y && cE a k y))
    | _ => false)
  | .dic ks l, _, e => (match ks, l, e with
    | [], .nil, .Dict [] [] _ => true
    | [x], .cons (.cst d) .nil, .Dict [some (.Constant (.str y) _ _)] [.Constant c _ _] _ => (decide (x = y) && strB x) && cstB d c
    | _, _, _ => false)
  | .lrg2 a b, k, e => (match e with
    | .Call (.Name x _) [.Call (.Name y _) [z, u] [] _] [] _ => (decide (x = Str.ofString "list") && decide (y = Str.ofString "range")) && ((glB k.sc x && glB k.sc y) && ((nst z && nst u) && (cE a k z && cE b k u)))
    | _ => false)
  | .lcr el t j c own, k, e => (match e with
    | .ListComp elt [⟨tg, .Name x _, ifs, 0⟩] scope _ => ((decide (k.N[j]? = some x) && (visB k.sc x && dbgB x)) && (blkC k.N k.sc scope (ownP k.N own) && (t.ix.all fun j => own.contains j))) && (tgB ⟨k.N, relS scope k.sc, scope, false, k.lc⟩ t tg && (cIf c ⟨k.N, relS scope k.sc, scope, false, k.lc⟩ ifs && cE el ⟨k.N, relS scope k.sc, scope, false, k.lc⟩ elt))
    | _ => false)
  | .isi a ct g, k, e => (match e with
    | .Call (.Name x _) [y, .Name z _] [] _ => (decide (x = Str.ofString "isinstance") && glB k.sc x) && (ctB P gn ct g k z && (nst y && cE a k y))
    | _ => false)
  | .lc el t i c own, k, e => (match e with
    | .ListComp elt [⟨tg, iter, ifs, 0⟩] scope _ => (blkC k.N k.sc scope (ownP k.N own) && (t.ix.all fun j => own.contains j)) && ((cI i k iter && notSet iter) && (tgB ⟨k.N, relS scope k.sc, scope, false, k.lc⟩ t tg && (cIf c ⟨k.N, relS scope k.sc, scope, false, k.lc⟩ ifs && cE el ⟨k.N, relS scope k.sc, scope, false, k.lc⟩ elt)))
    | _ => false)
  | .sm q a l, k, e => (match e with
    | .Call (.Attribute x y ap) es [] pos => (decide (y = smN q) && (noSup x && ap.endLine == pos.line)) && ((cE a k x && cEs l k es) && (match q with
      | .upp => es.isEmpty
      | .rpl => decide (es.length = 2)
      | _ => decide (es.length = 1)))
    | _ => false)
  | .std tp fl l, k, e => (match e with
    | .Tuple es _ _ => tp && cSt l fl k es
    | .List es _ => !tp && cSt l fl k es
    | _ => false)
  | .smc g f l, k, e => (match e with
    | .Call (.Attribute (.Name x _) y ap) es [] pos => ((decide (x = gn g) && (glB k.sc x && dbgB x)) && (decide (y = nm f) && (ap.endLine == pos.line && decide (es.length < 29)))) && (statB P g f && cEs l k es)
    | _ => false)
  | .fst _, _, _ => false
  | .dc1 x a, k, e => (match e with
    | .Dict [some (.Constant (.str y) _ _)] [z] _ => decide (x = y) && cE a k z
    | _ => false)
/-- a display's items, some with a star -/
def cSt : Es → List Bool → Ck → List Expr → Bool
  | .nil, fl, _, es => fl.isEmpty && es.isEmpty
  | .cons a r, fl, k, es => (match fl, es with
    | true :: fl, .Starred x _ :: xs => cE a k x && cSt r fl k xs
    | false :: fl, x :: xs => nst x && (cE a k x && cSt r fl k xs)
    | _, _ => false)
def cEs : Es → Ck → List Expr → Bool
  | .nil, _, es => (match es with
    | [] => true
    | _ => false)
  | .cons a r, k, es => (match es with
    | x :: xs => nst x && (cE a k x && cEs r k xs)
    | _ => false)
/-- the parts of an and, an or -/
def cB : Es → Ck → List Expr → Bool
  | .nil, _, _ => false
  | .cons a r, k, es => (match es with
    | x :: xs => tstB a && (cE a k x && (match r with
      | .nil => xs.isEmpty
      | .cons _ _ => cB r k xs))
    | _ => false)
def cO : Oe → Ck → Option Expr → Bool
  | .no, _, o => o.isNone
  | .yes a, k, o => (match o with
    | some e => cE a k e
    | none => false)
def cIf : Oe → Ck → List Expr → Bool
  | .no, _, l => l.isEmpty
  | .yes a, k, l => (match l with
    | [e] => tstB a && cE a k e
    | _ => false)
def cI : It → Ck → Expr → Bool
  | .seq a, k, e => cE a k e
  | .rng1 a, k, e => (match e with
    | .Call (.Name x _) [y] [] _ => (decide (x = Str.ofString "range") && glB k.sc x) && (nst y && cE a k y)
    | _ => false)
  | .rng2 a b, k, e => (match e with
    | .Call (.Name x _) [y, z] [] _ => (decide (x = Str.ofString "range") && glB k.sc x) && ((nst y && nst z) && (cE a k y && cE b k z))
    | _ => false)
  | .enum _, _, _ => false
end
end

/-! ### small facts -/
structure CtxK (G : Gl) (k : Ck) (X : Cx) : Prop where
  N : X.N = k.N
  sc : X.env.scope = k.sc
  kind : k.sc.kind = .function
  st : ∀ x, locB k.st x = true → Loc X.env.scope x ∧ (X.fn x = true ∨ X.env.scope.names.lookup x = some .local)
  ml : k.ml = true → Own0 X ∧ ∃ c tab, Mkr G X c tab
  lm : ∀ f N p b sc, k.lc f N p b sc = true → G.lam f N p b sc
section
variable {G : Gl} {P : Pg} {C : Tn.Call} {X : Cx} {W : WX} {n : Nat} {k : Ck} {x : Str}
theorem visB_ok (c : CtxK G k X) (h : visB k.sc x = true) : Vis X.env.scope x := by
  rw [c.sc]
  unfold visB at h
  unfold Vis
  cases e : k.sc.names.lookup x with
  | none => rw [e] at h; cases h
  | some q => rw [e] at h; cases q <;> simp_all
theorem glB_ok (c : CtxK G k X) (h : glB k.sc x = true) : L2.Gl X x := by
  unfold L2.Gl Env.kindOf
  rw [c.sc]
  unfold glB at h
  cases e : k.sc.names.lookup x with
  | none => rw [e] at h; cases h
  | some q => rw [e] at h; cases q <;> simp_all
theorem dbgB_ok (h : dbgB x = true) : (x == ("__debug__" : Str)) = false ∧ (x == ("__classdict__" : Str)) = false := by
  obtain ⟨h1, h2⟩ := Bool.and_eq_true_iff.mp h
  exact ⟨by simpa using h1, by simpa using h2⟩
theorem strB_ok (h : strB x = true) : StrOk x := by
  obtain ⟨h1, h2⟩ := Bool.and_eq_true_iff.mp h
  exact ⟨of_decide_eq_true h1, fun c hc => of_decide_eq_true (List.all_eq_true.mp h2 c hc)⟩
theorem noSup_ok {a : Expr} {f : Str} {env : PySem.Env} (h : noSup a = true) : attributeBase a f env (eval a env) = eval a env := by
  unfold attributeBase
  split
  · cases h
  · rfl
theorem notSlice_ix {b : Expr} (h : notSlice b = true) : PlainIx b := by
  intro o i
  cases b <;> first | rfl | cases h
theorem notSet_ok {b : Expr} {env : PySem.Env} (h : notSet b = true) : ∀ x, foldedSetIterable b env x = pure x := by
  intro x
  cases b <;> first | rfl | cases h
theorem opB_ok {op : CmpOp} (h : opB op = true) : op ≠ .In ∧ op ≠ .NotIn := by
  cases op <;> simp_all [opB]
theorem kwB_ok : ∀ {kws : List Keyword} {ks : List Nat}, kwB G.nm kws ks = true → kwNm G kws ks = true
  | [], [], _ => rfl
  | ⟨some x, v, q⟩ :: r, k :: ks, h => by
    obtain ⟨h1, h2⟩ := Bool.and_eq_true_iff.mp h
    show (decide (x = G.nm k) && kwNm G r ks) = true
    rw [h1, kwB_ok h2]
    rfl
  | [], _ :: _, h => by cases h
  | ⟨none, _, _⟩ :: _, _, h => by simp [kwB] at h
  | ⟨some _, _, _⟩ :: _, [], h => by simp [kwB] at h
theorem mth_eval {a : Expr} {f : Str} {apos pos : Pos} {es : List Expr} {env : PySem.Env} (h1 : noSup a = true) (h2 : (apos.endLine == pos.line) = true) (h3 : nsts es = true) (h4 : es.length < 29) :
    eval (.Call (.Attribute a f apos) es [] pos) env = (do
      let ov ← eval a env
      standAt apos.atName
      let (f, first) ← holding [ov] (getMethod ov f (do return (← importBound a env).getD true))
      callWith pos f first (backTo pos (starEach es env)) (backToKw pos (keywordEach [] env))) := by
  rw [arm_eval_Call, noSup_ok h1]
  have hf : methodCallForm (es.length + ([] : List Keyword).length) (backTo pos (starEach es env)) (backToKw pos (keywordEach [] env)) = true := by
    unfold methodCallForm
    have e1 : (backTo pos (starEach es env)).all (!·.1) = true := by
      have := star_any (pos := pos) (env := env) h3
      rw [List.any_eq_false] at this
      rw [List.all_eq_true]
      intro q hq
      have := this q hq
      simpa using this
    rw [e1]
    show (true && (true && decide (es.length + 0 + 0 < 30))) = true
    simp
    omega
  unfold methodCall
  rw [hf]
  unfold methodCallPos calleeOf
  simp only [h2]
  rfl
theorem Es_len : ∀ {l : Es} {k : Ck} {es : List Expr}, cEs P G.nm G.gn l k es = true → es.length = l.len ∧ nsts es = true
  | .nil, _, es, h => by
    unfold cEs at h
    cases es with
    | nil => exact ⟨rfl, rfl⟩
    | cons _ _ => cases h
  | .cons a r, k, es, h => by
    unfold cEs at h
    cases es with
    | nil => cases h
    | cons x xs =>
      obtain ⟨h1, h2⟩ := Bool.and_eq_true_iff.mp h
      obtain ⟨h3, h4⟩ := Bool.and_eq_true_iff.mp h2
      obtain ⟨e1, e2⟩ := Es_len h4
      refine ⟨by simp [Es.len, e1], ?_⟩
      show (nst x && nsts xs) = true
      rw [h1, e2]
      rfl
theorem evs_len : ∀ {l : Es} {e : Env} {m m1 : Mu} {ws : List Tn.W}, evs P C l e m = .ok ws m1 → ws.length = l.len
  | .nil, _, _, _, _, h => by
    simp only [evs] at h
    cases h
    rfl
  | .cons a r, e, m, m1, ws, h => by
    simp only [evs] at h
    cases e1 : ev P C a e m with
    | stuck => rw [bind_stuck e1] at h; cases h
    | exc _ _ _ => rw [bind_exc e1] at h; cases h
    | ok x m2 =>
      rw [bind_ok e1] at h
      cases e2 : evs P C r e m2 with
      | stuck => rw [bind_stuck e2] at h; cases h
      | exc _ _ _ => rw [bind_exc e2] at h; cases h
      | ok xs m3 =>
        rw [bind_ok e2] at h
        cases h
        simp [Es.len, evs_len e2]
end
end Tn

set_option Elab.async false
set_option linter.all false
set_option maxRecDepth 100000
set_option maxHeartbeats 1000000
namespace Tn
open PySem PySem.Spec PyProof.Rows L2

section
variable {G : Gl} {P : Pg} {C : Tn.Call}
theorem nbz {a : Bool} (h : (!a) = true) : a = false := by simpa using h
theorem ba {a b : Bool} (h : (a && b) = true) : a = true ∧ b = true := Bool.and_eq_true_iff.mp h
/-- a comprehension's block -/
theorem Cok.blk {X : Cx} {W : WX} {n : Nat} (cx : Cok G P C X W n) (s : Shared) (H : Hp) (scope : Scope) (env : PySem.Env) (fp : List Addr) : Cok G P C (X.blk s H scope env fp) (fun _ _ _ _ => False) n :=
  ⟨cx.k, cx.calm, cx.room, cx.gd, fun u s' ⟨_, _, _, _, _, _, _, _, _, _, _, _, _, _, _, _, w⟩ => w.elim, cx.nd, cx.good, cx.pf, cx.hi, cx.hiL, cx.hiM, cx.rm, cx.loL, cx.lo⟩
theorem CtxK.blk {X : Cx} {k : Ck} (c : CtxK G k X) {own : List (Str × Nat)} {scope : Scope} (ok : BlkOk k.N k.sc scope own) (s : Shared) (H : Hp) (A : Addr) (cl : List (Str × Addr)) (fp : List Addr) :
    CtxK G ⟨k.N, relS scope k.sc, scope, false, k.lc⟩ (X.blk s H scope (compEnvC scope cl A X.env) fp) := by
  have e0 : (compEnvC scope cl A X.env).scope = relS scope k.sc := by
    rw [← c.sc]
    rfl
  refine ⟨c.N, e0, ok.kind, fun x hx => ?_, fun z => (by cases z), c.lm⟩
  have h : scope.names.lookup x = some .local ∨ scope.names.lookup x = some .cell := by
    unfold locB at hx
    cases e : scope.names.lookup x with
    | none => rw [e] at hx; cases hx
    | some q => rw [e] at hx; cases q <;> simp_all
  have h2 : ∀ q, q ≠ NameKind.free → scope.names.lookup x = some q → (compEnvC scope cl A X.env).scope.names.lookup x = some q := fun q hq e => by
    rw [e0]
    exact lookup_relS_keep hq e
  rcases h with h | h
  · exact ⟨.inl (h2 _ (by decide) h), .inr (h2 _ (by decide) h)⟩
  · refine ⟨.inr (h2 _ (by decide) h), .inl ?_⟩
    show (scope.names.lookup x == some .cell) = true
    rw [h]
    rfl
theorem ownP_map (N : List Str) : ∀ own : List Nat, (ownP N own).map (·.2) = own
  | [] => rfl
  | i :: r => congrArg (i :: ·) (ownP_map N r)
theorem pg_or {X : Cx} {tg : Expr} {g1 g2 : TG} (h1 : PG X tg g1) (h2 : PG X tg g2) : PG X tg fun v σ H Q => g1 v σ H Q ∨ g2 v σ H Q := ⟨fun pins s σ H v u Q I r h => h.elim (fun z => h1.run pins s σ H v u Q I r z) fun z => h2.run pins s σ H v u Q I r z⟩
theorem tg_pg {X : Cx} {k : Ck} (c : CtxK G k X) (nd : X.N.Nodup) (hc : X.calm = true) {t : Tg} {tg : Expr} (h : tgB k t tg = true) : PG X tg (gTg X.K t) := by
  cases t with
  | nm i =>
    cases tg <;> first | (cases h; done) | skip
    rename_i x p
    obtain ⟨h1, h2⟩ := ba h
    obtain ⟨a, b⟩ := c.st x h2
    exact pg_name nd (by rw [c.N]; exact of_decide_eq_true h1) a b
  | tp l =>
    cases tg <;> first | (cases h; done) | skip
    rename_i es q p
    have all : ∀ (l : List Nat) (es : List Expr), tgB.go k l es = true → PGs X es (gNames l) ∧ (assignEach es X.env).length = l.length ∧ (assignEach es X.env).findIdx? (·.1) = none := by
      intro l
      induction l with
      | nil =>
        intro es h
        cases es with
        | nil => exact ⟨pgs_nil, rfl, rfl⟩
        | cons _ _ => cases h
      | cons i r ih =>
        intro es h
        cases es with
        | nil => cases h
        | cons x xs =>
          cases x <;> first | (cases h; done) | skip
          rename_i y py
          obtain ⟨h1, h2⟩ := ba h
          obtain ⟨h3, h4⟩ := ba h1
          obtain ⟨a, b, d⟩ := ih xs h2
          obtain ⟨u, v⟩ := c.st y h4
          refine ⟨pgs_cons (pg_name nd (by rw [c.N]; exact of_decide_eq_true h3) u v) a rfl, ?_, ?_⟩
          · show (assignEach xs X.env).length + 1 = r.length + 1
            rw [b]
          · show List.findIdx? (·.1) ((false, assign (.Name y py) X.env) :: assignEach xs X.env) = none
            rw [List.findIdx?_cons]
            simp only [Bool.false_eq_true, if_false]
            rw [d]
            rfl
    obtain ⟨a, b, d⟩ := all l es h
    exact pg_or (pg_tup hc a b d) (pg_lst hc a b d)
theorem cst_c {X : Cx} {d : D} {q : Const} {j : Nat} {pos : Pos} (h : cstB d q = true) : ∃ v, PE X (.Constant q j pos) (tC v) ∧ ∀ ι H, Den G ι H v d := by
  cases d with
  | non => cases q <;> first | (cases h; done) | exact ⟨_, pe_non, fun _ _ => .non⟩
  | bl b =>
    cases q <;> first | (cases h; done) | skip
    rename_i b'
    have e : b = b' := by simpa [cstB] using h
    subst e
    exact ⟨_, pe_bl, fun _ _ => .bl b⟩
  | int i =>
    cases q <;> first | (cases h; done) | skip
    rename_i i'
    have e : i = i' := of_decide_eq_true h
    subst e
    exact ⟨_, pe_int, fun _ _ => .int i⟩
  | str x =>
    cases q <;> first | (cases h; done) | skip
    rename_i x'
    obtain ⟨h1, h2⟩ := ba h
    have e : x = x' := of_decide_eq_true h1
    subst e
    exact ⟨_, pe_str, fun _ _ => .str (strB_ok h2)⟩
  | _ => cases q <;> cases h
theorem cst_pe {X : Cx} {W : WX} {d : D} {q : Const} {j : Nat} {pos : Pos} (h : cstB d q = true) : PE X (.Constant q j pos) (tM G W fun _ => M.ret (.d d)) := by
  cases d with
  | non => cases q <;> first | (cases h; done) | exact s_cst pe_non fun _ _ => .non
  | bl b =>
    cases q <;> first | (cases h; done) | skip
    rename_i b'
    have e : b = b' := by simpa [cstB] using h
    subst e
    exact s_cst pe_bl fun _ _ => .bl b
  | int i =>
    cases q <;> first | (cases h; done) | skip
    rename_i i'
    have e : i = i' := of_decide_eq_true h
    subst e
    exact s_cst pe_int fun _ _ => .int i
  | str x =>
    cases q <;> first | (cases h; done) | skip
    rename_i x'
    obtain ⟨h1, h2⟩ := ba h
    have e : x = x' := of_decide_eq_true h1
    subst e
    exact s_cst pe_str fun _ _ => .str (strB_ok h2)
  | _ => cases q <;> cases h
theorem glo_pe {X : Cx} {W : WX} {n : Nat} (cx : Cok G P C X W n) {g : Nat} {pos : Pos} (hg : L2.Gl X (G.gn g)) (hd : (G.gn g == ("__debug__" : Str)) = false) (h : gloB P g = true) : PE X (.Name (G.gn g) pos) (tM G W (ev P C (.glo g))) := by
  unfold gloB at h
  cases e : P.glo[g]? with
  | none => rw [e] at h; cases h
  | some q =>
    rw [e] at h
    cases q with
    | cst d =>
      obtain ⟨u, v, hm, rv, dd⟩ := cx.good.glo g _ e
      have e2 : (fun e' : Env => ev P C (.glo g) e') = fun _ => M.ret (.d d) := by
        funext e'
        simp only [ev]
        rw [e]
      show PE X _ (tM G W fun e' => ev P C (.glo g) e')
      rw [e2]
      exact s_cst (pe_glob hg hm rv hd) dd
    | _ => cases h
theorem ct_pe {X : Cx} {W : WX} {n : Nat} {k : Ck} (cx : Cok G P C X W n) (c : CtxK G k X) {ct : Ct} {g : Nat} {x : Str} {pos : Pos} (h : ctB P G.gn ct g k x = true) : PE X (.Name x pos) (tC (ctX G ct)) := by
  have fr : ∀ y : Str, y ∈ bltNs → X.mg y = none := cx.good.free
  cases ct with
  | int => obtain ⟨h1, h2⟩ := ba h; have e := of_decide_eq_true h1; subst e; exact pe_bltn (glB_ok c h2) (fr _ (by simp [bltNs])) rfl rfl (by decide) (by decide)
  | bool => obtain ⟨h1, h2⟩ := ba h; have e := of_decide_eq_true h1; subst e; exact pe_bltn (glB_ok c h2) (fr _ (by simp [bltNs])) rfl rfl (by decide) (by decide)
  | str => obtain ⟨h1, h2⟩ := ba h; have e := of_decide_eq_true h1; subst e; exact pe_bltn (glB_ok c h2) (fr _ (by simp [bltNs])) rfl rfl (by decide) (by decide)
  | tup => obtain ⟨h1, h2⟩ := ba h; have e := of_decide_eq_true h1; subst e; exact pe_bltn (glB_ok c h2) (fr _ (by simp [bltNs])) rfl rfl (by decide) (by decide)
  | lst => obtain ⟨h1, h2⟩ := ba h; have e := of_decide_eq_true h1; subst e; exact pe_bltn (glB_ok c h2) (fr _ (by simp [bltNs])) rfl rfl (by decide) (by decide)
  | dic => obtain ⟨h1, h2⟩ := ba h; have e := of_decide_eq_true h1; subst e; exact pe_bltn (glB_ok c h2) (fr _ (by simp [bltNs])) rfl rfl (by decide) (by decide)
  | own d =>
    obtain ⟨h1, h2⟩ := ba h
    obtain ⟨h3, h4⟩ := ba h1
    obtain ⟨h5, h6⟩ := ba h3
    have e := of_decide_eq_true h5
    subst e
    cases eg : P.glo[g]? with
    | none => rw [eg] at h2; cases h2
    | some q =>
      rw [eg] at h2
      cases q with
      | cls c' =>
        have e2 : d = c' := by simpa using h2
        subst e2
        exact pe_glob (glB_ok c h6) (cx.good.glo g _ eg) rfl (dbgB_ok h4).1
      | _ => cases h2
  | exc d =>
    obtain ⟨h1, h2⟩ := ba h
    obtain ⟨h3, h4⟩ := ba h1
    obtain ⟨h5, h6⟩ := ba h3
    have e := of_decide_eq_true h5
    subst e
    cases eg : P.glo[g]? with
    | none => rw [eg] at h2; cases h2
    | some q =>
      rw [eg] at h2
      cases q with
      | exc c' =>
        have e2 : d = c' := by simpa using h2
        subst e2
        exact pe_glob (glB_ok c h6) (cx.good.glo g _ eg) rfl (dbgB_ok h4).1
      | _ => cases h2
  | ve => obtain ⟨h1, h2⟩ := ba h; have e := of_decide_eq_true h1; subst e; exact pe_bltn (glB_ok c h2) (fr _ (by simp [bltNs])) rfl rfl (by decide) (by decide)
theorem tru_of {X : Cx} {W : WX} {n : Nat} {fa : Env → M Tn.W} {e : Expr} (cx : Cok G P C X W n) (h : PE X e (tM G W fa)) (he : ∀ whole, isTrue e X.env whole = (do let v ← whole; standAt e.pos; holding [v] (truthy v))) (t : Bool) : PE X e (tM G W fa) ∧ (t = true → PT X e (tMB G W fun env => (fa env).bind tru)) :=
  ⟨h, fun _ => s_test cx h he⟩
def SE (G : Gl) (P : Pg) (C : Tn.Call) (a : E) : Prop := ∀ (k : Ck) (e : Expr) (X : Cx) (W : WX) (n : Nat), Cok G P C X W n → CtxK G k X → cE P G.nm G.gn a k e = true → PE X e (tM G W (ev P C a)) ∧ (tstB a = true → PT X e (tMB G W fun env => (ev P C a env).bind tru))
def SEs (G : Gl) (P : Pg) (C : Tn.Call) (l : Es) : Prop := (∀ (k : Ck) (es : List Expr) (X : Cx) (W : WX) (n : Nat), Cok G P C X W n → CtxK G k X → cEs P G.nm G.gn l k es = true → PA X es (tML G W (evs P C l))) ∧
  (∀ (k : Ck) (kws : List Keyword) (X : Cx) (W : WX) (n : Nat), Cok G P C X W n → CtxK G k X → cEs P G.nm G.gn l k (kws.map (·.value)) = true → PK X kws (tML G W (evs P C l))) ∧
  (∀ (k : Ck) (es : List Expr) (X : Cx) (W : WX) (n : Nat) (pos : Pos), Cok G P C X W n → CtxK G k X → cB P G.nm G.gn l k es = true →
    (PE X (.BoolOp .And es pos) (tM G W (evAnd P C l)) ∧ PW X (.BoolOp .And es pos) (tMB G W fun env => (evAnd P C l env).bind tru)) ∧ PE X (.BoolOp .Or es pos) (tM G W (evOr P C l)) ∧ PW X (.BoolOp .Or es pos) (tMB G W fun env => (evOr P C l env).bind tru)) ∧
  ∀ (fl : List Bool) (k : Ck) (es : List Expr) (X : Cx) (W : WX) (n : Nat), Cok G P C X W n → CtxK G k X → cSt P G.nm G.gn l fl k es = true → PA X es (tML G W (evst P C l fl))
def SO (G : Gl) (P : Pg) (C : Tn.Call) (o : Oe) : Prop := (∀ (k : Ck) (e : Option Expr) (X : Cx) (W : WX) (n : Nat), Cok G P C X W n → CtxK G k X → cO P G.nm G.gn o k e = true → PO X e (tMP G W fun env => (evO P C o env).bind fun y => M.opt (optI y))) ∧
  ∀ (k : Ck) (l : List Expr) (X : Cx) (W : WX) (n : Nat), Cok G P C X W n → CtxK G k X → cIf P G.nm G.gn o k l = true → PTs X l (tMB G W (evC P C o))
def SI (G : Gl) (P : Pg) (C : Tn.Call) (i : Tn.It) : Prop := ∀ (k : Ck) (e : Expr) (X : Cx) (W : WX) (n : Nat) (tg : Expr), Cok G P C X W n → CtxK G k X → cI P G.nm G.gn i k e = true → PI X tg e (tMI G W (evI P C i))
section
variable {a b c' : E} {l lk : Es} {lo hi : Oe} {it : Tn.It}
theorem e_var (i : Nat) : SE G P C (.var i) := by
  intro k e X W n cx c h
  simp only [cE] at h
  split at h
  · rename_i x p
    obtain ⟨h1, h2⟩ := ba h
    obtain ⟨h3, h4⟩ := ba h2
    exact tru_of cx (s_var (by rw [c.N]; exact of_decide_eq_true h1) (visB_ok c h3) (dbgB_ok h4).1 (dbgB_ok h4).2) (fun _ => rfl) _
  · cases h
theorem e_cst (d : D) : SE G P C (.cst d) := by
  intro k e X W n cx c h
  simp only [cE] at h
  split at h
  · exact tru_of cx (cst_pe h) (fun _ => rfl) _
  · cases h
theorem e_glo (g : Nat) : SE G P C (.glo g) := by
  intro k e X W n cx c h
  simp only [cE] at h
  split at h
  · rename_i x p
    obtain ⟨h1, h2⟩ := ba h
    obtain ⟨h3, h4⟩ := ba h2
    obtain ⟨h5, h6⟩ := ba h4
    have ex := of_decide_eq_true h1
    subst ex
    exact tru_of cx (glo_pe cx (glB_ok c h3) (dbgB_ok h5).1 h6) (fun _ => rfl) _
  · cases h
theorem e_bin (op : Operator) (ha : SE G P C a) (hb : SE G P C b) : SE G P C (.bin op a b) := by
  intro k e X W n cx c h
  simp only [cE] at h
  split at h
  · obtain ⟨h1, h2⟩ := ba h
    obtain ⟨h3, h4⟩ := ba h2
    have ex := of_decide_eq_true h1
    subst ex
    exact tru_of cx (s_bin cx (ha k _ X W n cx c h3).1 (hb k _ X W n cx c h4).1) (fun _ => rfl) _
  · cases h
theorem e_neg (ha : SE G P C a) : SE G P C (.neg a) := by
  intro k e X W n cx c h
  simp only [cE] at h
  split at h
  · exact tru_of cx (s_un cx (ha k _ X W n cx c h).1) (fun _ => rfl) _
  · cases h
theorem e_inv (ha : SE G P C a) : SE G P C (.inv a) := by
  intro k e X W n cx c h
  simp only [cE] at h
  split at h
  · exact tru_of cx (s_un cx (ha k _ X W n cx c h).1) (fun _ => rfl) _
  · cases h
theorem e_cmp (op : CmpOp) (ha : SE G P C a) (hb : SE G P C b) : SE G P C (.cmp op a b) := by
  intro k e X W n cx c h
  simp only [cE] at h
  split at h
  · obtain ⟨h1, h2⟩ := ba h
    obtain ⟨h3, h4⟩ := ba h2
    obtain ⟨h5, h6⟩ := ba h4
    have ex := of_decide_eq_true h1
    subst ex
    have bm := nbz h3
    exact ⟨s_cmp cx bm (ha k _ X W n cx c h5).1 (hb k _ X W n cx c h6).1, fun _ => s_cmpT cx bm (ha k _ X W n cx c h5).1 (hb k _ X W n cx c h6).1⟩
  · cases h
theorem e_chn (o1 o2 : CmpOp) (ha : SE G P C a) (hb : SE G P C b) (hc : SE G P C c') : SE G P C (.chn o1 o2 a b c') := by
  intro k e X W n cx c h
  simp only [cE] at h
  split at h
  · obtain ⟨h1, h2⟩ := ba h
    obtain ⟨h3, h4⟩ := ba h1
    obtain ⟨h5, h6⟩ := ba h2
    obtain ⟨h7, h8⟩ := ba h6
    obtain ⟨h9, h10⟩ := ba h8
    have ex := of_decide_eq_true h3
    have ey := of_decide_eq_true h4
    subst ex
    subst ey
    exact ⟨s_chn cx (by simpa using h5) (ha k _ X W n cx c h7).1 (hb k _ X W n cx c h9).1 (hc k _ X W n cx c h10).1, fun _ => s_chnT cx (by simpa using h5) (ha k _ X W n cx c h7).1 (hb k _ X W n cx c h9).1 (hc k _ X W n cx c h10).1⟩
  · cases h
theorem e_and (hl : SEs G P C l) : SE G P C (.and l) := by
  intro k e X W n cx c h
  simp only [cE] at h
  split at h
  · obtain ⟨⟨h1, h2⟩, _⟩ := hl.2.2.1 k _ X W n _ cx c h
    exact ⟨h1, fun _ => h2.pt⟩
  · cases h
theorem e_or (hl : SEs G P C l) : SE G P C (.or l) := by
  intro k e X W n cx c h
  simp only [cE] at h
  split at h
  · obtain ⟨_, h1, h2⟩ := hl.2.2.1 k _ X W n _ cx c h
    exact ⟨h1, fun _ => h2.pt⟩
  · cases h
theorem e_not (ha : SE G P C a) : SE G P C (.not a) := by
  intro k e X W n cx c h
  simp only [cE] at h
  split at h
  · obtain ⟨h1, h2⟩ := ba h
    obtain ⟨h3, h4⟩ := ha k _ X W n cx c h2
    exact ⟨s_not cx h3, fun _ => s_notT (h4 h1)⟩
  · cases h
theorem e_ite (hc : SE G P C c') (ha : SE G P C a) (hb : SE G P C b) : SE G P C (.ite c' a b) := by
  intro k e X W n cx c h
  simp only [cE] at h
  split at h
  · obtain ⟨h1, h2⟩ := ba h
    obtain ⟨h3, h4⟩ := ba h2
    obtain ⟨h5, h6⟩ := ba h4
    exact ⟨s_ite ((hc k _ X W n cx c h3).2 h1) (ha k _ X W n cx c h5).1 (hb k _ X W n cx c h6).1, fun z => by cases z⟩
  · cases h
theorem e_tup (hl : SEs G P C l) : SE G P C (.tup l) := by
  intro k e X W n cx c h
  simp only [cE] at h
  split at h
  · obtain ⟨h1, h2⟩ := ba h
    have hn := (Es_len h2).1
    exact tru_of cx (s_tup (of_decide_eq_true h1) (hl.1 k _ X W n cx c h2) fun e m ws m1 q => by rw [evs_len q, hn]) (fun _ => rfl) _
  · cases h
theorem e_lst (hl : SEs G P C l) : SE G P C (.lst l) := by
  intro k e X W n cx c h
  simp only [cE] at h
  split at h
  · obtain ⟨h1, h2⟩ := ba h
    have hn := (Es_len h2).1
    exact tru_of cx (s_lst (of_decide_eq_true h1) (hl.1 k _ X W n cx c h2) fun e m ws m1 q => by rw [evs_len q, hn]) (fun _ => rfl) _
  · cases h
theorem e_atr (f : Nat) (ha : SE G P C a) : SE G P C (.atr a f) := by
  intro k e X W n cx c h
  simp only [cE] at h
  split at h
  · obtain ⟨h1, h2⟩ := ba h
    obtain ⟨h3, h4⟩ := ba h2
    have ex := of_decide_eq_true h1
    subst ex
    exact tru_of cx (s_atr cx (noSup_ok h3) (ha k _ X W n cx c h4).1) (fun _ => rfl) _
  · cases h
theorem e_sub (ha : SE G P C a) (hb : SE G P C b) : SE G P C (.sub a b) := by
  intro k e X W n cx c h
  simp only [cE] at h
  split at h
  · obtain ⟨h1, h2⟩ := ba h
    obtain ⟨h3, h4⟩ := ba h2
    exact tru_of cx (s_sub cx (notSlice_ix h1) (ha k _ X W n cx c h3).1 (hb k _ X W n cx c h4).1) (fun _ => rfl) _
  · cases h
theorem e_slc (ha : SE G P C a) (hl : SO G P C lo) (hh : SO G P C hi) : SE G P C (.slc a lo hi) := by
  intro k e X W n cx c h
  simp only [cE] at h
  split at h
  · obtain ⟨h1, h2⟩ := ba h
    obtain ⟨h3, h4⟩ := ba h2
    exact tru_of cx (s_slc cx (ha k _ X W n cx c h1).1 (hl.1 k _ X W n cx c h3) (hh.1 k _ X W n cx c h4)) (fun _ => rfl) _
  · cases h
theorem e_call (g : Nat) (ks : List Nat) (hl : SEs G P C l) (hk : SEs G P C lk) : SE G P C (.call g l ks lk) := by
  intro k e X W n cx c h
  simp only [cE] at h
  split at h
  · rename_i x px es kws pos
    obtain ⟨h1, h2⟩ := ba h
    obtain ⟨h3, h4⟩ := ba h1
    obtain ⟨h5, h6⟩ := ba h4
    obtain ⟨h7, h8⟩ := ba h2
    obtain ⟨h9, h10⟩ := ba h7
    obtain ⟨h11, h12⟩ := ba h8
    have ex := of_decide_eq_true h3
    subst ex
    obtain ⟨n1, n2⟩ := Es_len h11
    obtain ⟨n3, n4⟩ := Es_len h12
    have kl : kws.length = ks.length := by
      have : ∀ (kws : List Keyword) (ks : List Nat), kwB G.nm kws ks = true → kws.length = ks.length := by
        intro kws
        induction kws with
        | nil => intro ks h; cases ks with
          | nil => rfl
          | cons _ _ => cases h
        | cons q r ih =>
          intro ks h
          cases ks with
          | nil => obtain ⟨o, v, w⟩ := q; cases o <;> cases h
          | cons j js =>
            obtain ⟨o, v, w⟩ := q
            cases o with
            | none => cases h
            | some y => simp [ih js (ba h).2]
      exact this kws ks h10
    have hx : (∃ f, P.glo[g]? = some (.fn f)) ∨ ∃ c k, P.glo[g]? = some (.cls c) ∧ P.cls[c]? = some k := by
      unfold callB at h9
      cases eg : P.glo[g]? with
      | none => rw [eg] at h9; cases h9
      | some q =>
        rw [eg] at h9
        cases q with
        | fn f => exact .inl ⟨f, rfl⟩
        | cls d =>
          cases ed : P.cls[d]? with
          | none => simp [ed] at h9
          | some kk => exact .inr ⟨d, kk, rfl, ed⟩
        | _ => cases h9
    refine tru_of cx (s_call (nn := l.len) cx (glB_ok c h5) (dbgB_ok h6).1 n2 ?_ (kwB_ok h10) (hl.1 k _ X W n cx c h11) (hk.2.1 k _ X W n cx c h12) (fun e m ws m1 q => evs_len q) (fun e m ws m1 q => ?_) hx) (fun _ => rfl) _
    · intro e0 env
      subst e0
      cases l with
      | nil => rfl
      | cons _ _ => cases n1
    · rw [evs_len q, ← n3, List.length_map, kl]
  · cases h
theorem e_mth (f : Nat) (ha : SE G P C a) (hl : SEs G P C l) : SE G P C (.mth a f l) := by
  intro k e X W n cx c h
  simp only [cE] at h
  split at h
  · obtain ⟨h1, h2⟩ := ba h
    obtain ⟨h3, h4⟩ := ba h1
    obtain ⟨h5, h6⟩ := ba h4
    obtain ⟨h7, h8⟩ := ba h6
    obtain ⟨h9, h10⟩ := ba h2
    have ex := of_decide_eq_true h3
    subst ex
    obtain ⟨n1, n2⟩ := Es_len h10
    refine tru_of cx (s_mth cx n2 ?_ (ha k _ X W n cx c h9).1 (hl.1 k _ X W n cx c h10) (mth_eval h5 h7 n2 (of_decide_eq_true h8))) (fun _ => rfl) _
    intro e0 env
    subst e0
    cases l with
    | nil => rfl
    | cons _ _ => cases n1
  · cases h
theorem e_cal (i : Nat) (hl : SEs G P C l) : SE G P C (.cal i l) := by
  intro k e X W n cx c h
  simp only [cE] at h
  split at h
  · obtain ⟨h1, h2⟩ := ba h
    obtain ⟨h3, h4⟩ := ba h1
    obtain ⟨h5, h6⟩ := ba h4
    obtain ⟨n1, n2⟩ := Es_len h2
    exact tru_of cx (s_cal cx (by rw [c.N]; exact of_decide_eq_true h3) (visB_ok c h5) (dbgB_ok h6).1 (dbgB_ok h6).2 n2 (hl.1 k _ X W n cx c h2) (by rw [cx.k]; exact cx.good.fnIn)) (fun _ => rfl) _
  · cases h
theorem e_blt (f : BF) (hl : SEs G P C l) : SE G P C (.blt f l) := by
  intro k e X W n cx c h
  simp only [cE] at h
  split at h
  · obtain ⟨h1, h2⟩ := ba h
    obtain ⟨h3, h4⟩ := ba h1
    obtain ⟨h5, h6⟩ := ba h4
    obtain ⟨n1, n2⟩ := Es_len h2
    have ex := of_decide_eq_true h3
    subst ex
    exact tru_of cx (s_blt cx (of_decide_eq_true h5) (glB_ok c h6) n2 (hl.1 k _ X W n cx c h2)) (fun _ => rfl) _
  · cases h
theorem e_lrg (ha : SE G P C a) : SE G P C (.lrg a) := by
  intro k e X W n cx c h
  simp only [cE] at h
  split at h
  · obtain ⟨h1, h2⟩ := ba h
    obtain ⟨h3, h4⟩ := ba h1
    obtain ⟨h5, h6⟩ := ba h2
    obtain ⟨h7, h8⟩ := ba h5
    obtain ⟨h9, h10⟩ := ba h6
    have ex := of_decide_eq_true h3
    have ey := of_decide_eq_true h4
    subst ex
    subst ey
    exact tru_of cx (s_lrng cx (glB_ok c h7) (glB_ok c h8) h9 (ha k _ X W n cx c h10).1) (fun _ => rfl) _
  · cases h
theorem e_lrg2 (ha : SE G P C a) (hb : SE G P C b) : SE G P C (.lrg2 a b) := by
  intro k e X W n cx c h
  simp only [cE] at h
  split at h
  · obtain ⟨h1, h2⟩ := ba h
    obtain ⟨h3, h4⟩ := ba h1
    obtain ⟨h5, h6⟩ := ba h2
    obtain ⟨h7, h8⟩ := ba h5
    obtain ⟨h9, h10⟩ := ba h6
    obtain ⟨n1, n2⟩ := ba h9
    obtain ⟨h11, h12⟩ := ba h10
    have ex := of_decide_eq_true h3
    have ey := of_decide_eq_true h4
    subst ex
    subst ey
    exact tru_of cx (s_lrg2 cx (glB_ok c h7) (glB_ok c h8) n1 n2 (ha k _ X W n cx c h11).1 (hb k _ X W n cx c h12).1) (fun _ => rfl) _
  · cases h
theorem e_isi (ct : Ct) (g : Nat) (ha : SE G P C a) : SE G P C (.isi a ct g) := by
  intro k e X W n cx c h
  simp only [cE] at h
  split at h
  · obtain ⟨h1, h2⟩ := ba h
    obtain ⟨h3, h4⟩ := ba h1
    obtain ⟨h5, h6⟩ := ba h2
    obtain ⟨h7, h8⟩ := ba h6
    have ex := of_decide_eq_true h3
    subst ex
    refine tru_of cx (s_isi cx (glB_ok c h4) ?_ (ha k _ X W n cx c h8).1 (ct_pe cx c h5)) (fun _ => rfl) _
    show (nst _ && (true && true)) = true
    rw [h7]
    rfl
  · cases h
theorem e_lc (t : Tg) (own : List Nat) (ha : SE G P C a) (hi : SI G P C it) (hc : SO G P C lo) : SE G P C (.lc a t it lo own) := by
  intro k e X W n cx c h
  simp only [cE] at h
  split at h
  · rename_i elt tg iter ifs scope pos
    obtain ⟨h1, h2⟩ := ba h
    obtain ⟨h3, h4⟩ := ba h1
    obtain ⟨h5, h6⟩ := ba h2
    obtain ⟨h7, h8⟩ := ba h5
    obtain ⟨h9, h10⟩ := ba h6
    obtain ⟨h11, h12⟩ := ba h10
    have ok : BlkOk X.N X.env.scope scope (ownP k.N own) := by
      rw [c.N, c.sc]
      exact blkOk_by h3
    have ok2 : BlkOk k.N k.sc scope (ownP k.N own) := blkOk_by h3
    have z := s_lc (pos := pos) (fb := evC P C lo) (fe := ev P C a) (t := t) (own := ownP k.N own) cx (hi k iter X W n tg cx c h7) ok (fun i hi => by
      rw [ownP_map]
      simpa using List.all_eq_true.mp h4 i hi) (fun s H A cl fp => tg_pg (c.blk ok2 s H A cl fp) cx.nd cx.calm h9) (fun s H A cl fp => hc.2 _ _ _ _ n (cx.blk s H scope _ fp) (c.blk ok2 s H A cl fp) h11)
      (fun s H A cl fp => (ha _ _ _ _ n (cx.blk s H scope _ fp) (c.blk ok2 s H A cl fp) h12).1) (notSet_ok h8)
    rw [ownP_map] at z
    exact tru_of cx z (fun _ => rfl) _
  · cases h
theorem e_lcr (t : Tg) (j : Nat) (own : List Nat) (ha : SE G P C a) (hc : SO G P C lo) : SE G P C (.lcr a t j lo own) := by
  intro k e X W n cx c h
  simp only [cE] at h
  split at h
  · rename_i elt tg x xp ifs scope pos
    obtain ⟨h1, h2⟩ := ba h
    obtain ⟨g1, g2⟩ := ba h1
    obtain ⟨g3, g4⟩ := ba g1
    obtain ⟨g5, g6⟩ := ba g4
    obtain ⟨h3, h4⟩ := ba g2
    obtain ⟨h9, h10⟩ := ba h2
    obtain ⟨h11, h12⟩ := ba h10
    have ok : BlkOk X.N X.env.scope scope (ownP k.N own) := by
      rw [c.N, c.sc]
      exact blkOk_by h3
    have ok2 : BlkOk k.N k.sc scope (ownP k.N own) := blkOk_by h3
    have z := s_lcr (pos := pos) (p := xp) (j := j) (fb := evC P C lo) (fe := ev P C a) (t := t) (own := ownP k.N own) cx (by rw [c.N]; exact of_decide_eq_true g3) (visB_ok c g5) (dbgB_ok g6).1 (dbgB_ok g6).2 ok (fun i hi => by
      rw [ownP_map]
      simpa using List.all_eq_true.mp h4 i hi) (fun s H A cl fp => tg_pg (c.blk ok2 s H A cl fp) cx.nd cx.calm h9) (fun s H A cl fp => hc.2 _ _ _ _ n (cx.blk s H scope _ fp) (c.blk ok2 s H A cl fp) h11)
      (fun s H A cl fp => (ha _ _ _ _ n (cx.blk s H scope _ fp) (c.blk ok2 s H A cl fp) h12).1)
    rw [ownP_map] at z
    have z2 : PE X (.ListComp elt [⟨tg, .Name x xp, ifs, 0⟩] scope pos) (tM G W (ev P C (.lcr a t j lo own))) := z
    exact tru_of cx z2 (fun _ => rfl) _
  · cases h
theorem e_lcal (i : Nat) : SE G P C (.lcal i) := by
  intro k e X W n cx c h
  simp only [cE] at h
  split at h
  · obtain ⟨h1, h2⟩ := ba h
    obtain ⟨h3, h4⟩ := ba h2
    exact tru_of cx (s_lcal cx (by rw [c.N]; exact of_decide_eq_true h1) (visB_ok c h3) (dbgB_ok h4).1 (dbgB_ok h4).2) (fun _ => rfl) _
  · cases h
theorem e_mkx (g : Nat) (ha : SE G P C a) : SE G P C (.mkx g a) := by
  intro k e X W n cx c h
  simp only [cE] at h
  split at h
  · obtain ⟨h1, h2⟩ := ba h
    obtain ⟨h3, h4⟩ := ba h1
    obtain ⟨h5, h6⟩ := ba h4
    obtain ⟨h7, h8⟩ := ba h2
    obtain ⟨h9, h10⟩ := ba h8
    have ex := of_decide_eq_true h3
    subst ex
    unfold excB at h7
    cases eg : P.glo[g]? with
    | none => rw [eg] at h7; cases h7
    | some q =>
      rw [eg] at h7
      cases q with
      | exc d => exact tru_of cx (s_mkx cx eg (glB_ok c h5) (dbgB_ok h6).1 h9 (ha k _ X W n cx c h10).1) (fun _ => rfl) _
      | _ => cases h7
  · cases h
theorem e_clam (g f : Nat) (caps : List Nat) (hl : SEs G P C l) : SE G P C (.clam g f caps l) := by
  intro k e X W n cx c h
  simp only [cE] at h
  split at h
  · rename_i x px params body scope lp es pos
    obtain ⟨h1, h2⟩ := ba h
    obtain ⟨h3, h4⟩ := ba h1
    obtain ⟨h5, h6⟩ := ba h3
    obtain ⟨h7, h8⟩ := ba h6
    obtain ⟨h9, h10⟩ := ba h8
    obtain ⟨h11, h12⟩ := ba h4
    obtain ⟨h13, h14⟩ := ba h2
    obtain ⟨h15, h16⟩ := ba h13
    obtain ⟨h17, h18⟩ := ba h15
    obtain ⟨h19, h20⟩ := ba h16
    have ex := of_decide_eq_true h7
    subst ex
    obtain ⟨ow, cc, tab, mk⟩ := c.ml h5
    obtain ⟨n1, n2⟩ := Es_len h14
    have hdef : defaultsOf params X.env = ([], []) := by
      obtain ⟨a1, a2, a3, a4, a5, a6, a7⟩ := params
      have e1 : a7 = [] ∨ a5 = [] := by first | exact .inl (by simpa using h17) | exact .inr (by simpa using h17)
      simp_all [defaultsOf, evalEach, evalEachOpt]
    have atN : ∀ i ∈ caps, ∃ x, X.N[i]? = some x ∧ (x, NameKind.free) ∈ scope.names := fun i hi => by
      have z := List.all_eq_true.mp h20 i hi
      rw [c.N]
      cases q : k.N[i]? with
      | none => simp [q] at z
      | some x => exact ⟨x, rfl, by simpa [q] using z⟩
    unfold fnB at h11
    cases eg : P.glo[g]? with
    | none => rw [eg] at h11; cases h11
    | some q =>
      rw [eg] at h11
      cases q with
      | fn f0 =>
        refine tru_of cx (s_clam (nn := l.len) (N := caps.map fun i => k.N.getD i Str.empty) cx ow mk (glB_ok c h9) (dbgB_ok h10).1 n2 hdef (c.lm _ _ _ _ _ h12) (fun y hy z => ?_) ?_ (fun y hy => ?_) (hl.1 k _ X W n cx c h14) (fun e m ws m1 q => evs_len q) n1 eg) (fun _ => rfl) _
        · have q := List.all_eq_true.mp h19 y hy
          rw [c.sc]
          simpa [z] using q
        · rw [List.map_map]
          apply List.map_congr_left
          intro i hi
          obtain ⟨x, e1, _⟩ := atN i hi
          rw [e1]
          rw [c.N] at e1
          simp [List.getD, e1]
        · obtain ⟨i, hi, rfl⟩ := List.mem_map.mp hy
          obtain ⟨x, e1, e2⟩ := atN i hi
          rw [c.N] at e1
          simpa [List.getD, e1] using e2
      | _ => cases h11
  · cases h
theorem e_dic (ks : List Str) (l : Es) : SE G P C (.dic ks l) := by
  intro k e X W n cx c h
  simp only [cE] at h
  split at h
  · refine tru_of (fa := fun e => ev P C (.dic [] .nil) e) cx ?_ (fun _ => rfl) _
    simp only [ev, evs]
    exact s_dic0
  · rename_i x d y j p q j2 p2 p3
    obtain ⟨h1, h2⟩ := ba h
    obtain ⟨h3, h4⟩ := ba h1
    have ex := of_decide_eq_true h3
    subst ex
    obtain ⟨v, a1, a2⟩ := cst_c (G := G) (X := X) h2
    refine tru_of (fa := fun e => ev P C (.dic [x] (.cons (.cst d) .nil)) e) cx ?_ (fun _ => rfl) _
    simp only [ev, evs]
    exact s_dic1 (strB_ok h4) a1 a2
  · cases h
theorem e_sm (q : SM) (ha : SE G P C a) (hl : SEs G P C l) : SE G P C (.sm q a l) := by
  intro k e X W n cx c h
  simp only [cE] at h
  split at h
  · rename_i x y ap es pos
    obtain ⟨h1, h2⟩ := ba h
    obtain ⟨h3, h4⟩ := ba h1
    obtain ⟨h5, h7⟩ := ba h4
    obtain ⟨h9, h10⟩ := ba h2
    obtain ⟨h11, h12⟩ := ba h9
    have ex := of_decide_eq_true h3
    subst ex
    by_cases hq : q = .upp
    · subst hq
      have ee : es = [] := by simpa using h10
      subst ee
      have e0 : l = .nil := by
        cases l with
        | nil => rfl
        | cons _ _ => simp [cEs] at h12
      subst e0
      refine tru_of (fa := fun e => ev P C (.sm .upp a .nil) e) cx ?_ (fun _ => rfl) _
      simp only [ev, evs]
      exact s_sm0 cx (noSup_ok h5) h7 (ha k _ X W n cx c h11).1
    by_cases hr : q = .rpl
    · subst hr
      have hlen : es.length = 2 := of_decide_eq_true h10
      match es, hlen with
      | [z, z2], _ =>
        obtain ⟨n1, n2⟩ := Es_len h12
        obtain ⟨hz, n3⟩ := ba n2
        have hz2 : nst z2 = true := (ba n3).1
        refine tru_of (fa := fun e => ev P C (.sm .rpl a l) e) cx ?_ (fun _ => rfl) _
        simp only [ev]
        exact s_rpl cx hz hz2 (noSup_ok h5) h7 (ha k _ X W n cx c h11).1 (hl.1 k _ X W n cx c h12)
    · have hlen : es.length = 1 := by
        cases q <;> first | exact absurd rfl hq | exact absurd rfl hr | exact of_decide_eq_true h10
      cases es with
      | nil => cases hlen
      | cons z zs =>
        cases zs with
        | cons _ _ => simp at hlen
        | nil =>
          obtain ⟨n1, n2⟩ := Es_len h12
          have hz : nst z = true := (ba n2).1
          refine tru_of (fa := fun e => ev P C (.sm q a l) e) cx ?_ (fun _ => rfl) _
          simp only [ev]
          exact s_sm1 cx hq hr hz (noSup_ok h5) h7 (ha k _ X W n cx c h11).1 (hl.1 k _ X W n cx c h12)
  · cases h
theorem e_std (tp : Bool) (fl : List Bool) (hl : SEs G P C l) : SE G P C (.std tp fl l) := by
  intro k e X W n cx c h
  simp only [cE] at h
  split at h
  · obtain ⟨h1, h2⟩ := ba h
    subst h1
    refine tru_of (fa := fun e => ev P C (.std true fl l) e) cx ?_ (fun _ => rfl) _
    simp only [ev]
    exact s_std (tp := true) (hl.2.2.2 fl k _ X W n cx c h2)
  · obtain ⟨h1, h2⟩ := ba h
    have h1 := nbz h1
    subst h1
    refine tru_of (fa := fun e => ev P C (.std false fl l) e) cx ?_ (fun _ => rfl) _
    simp only [ev]
    exact s_std (tp := false) (kk := 0) (hl.2.2.2 fl k _ X W n cx c h2)
  · cases h
theorem e_smc (g f : Nat) (hl : SEs G P C l) : SE G P C (.smc g f l) := by
  intro k e X W n cx c h
  simp only [cE] at h
  split at h
  · rename_i x px y ap es pos
    obtain ⟨h1, h2⟩ := ba h
    obtain ⟨h3, h4⟩ := ba h1
    obtain ⟨h5, h6⟩ := ba h3
    obtain ⟨h7, h8⟩ := ba h6
    obtain ⟨h9, h10⟩ := ba h4
    obtain ⟨h11, h12⟩ := ba h10
    obtain ⟨h13, h14⟩ := ba h2
    have ex := of_decide_eq_true h5
    subst ex
    have ey := of_decide_eq_true h9
    subst ey
    obtain ⟨n1, n2⟩ := Es_len h14
    unfold statB at h13
    cases eg : P.glo[g]? with
    | none => rw [eg] at h13; cases h13
    | some q =>
      rw [eg] at h13
      cases q with
      | cls cc =>
        cases est : P.stat cc f with
        | none => simp [est] at h13
        | some hh =>
          refine tru_of (fa := fun e => ev P C (.smc g f l) e) cx ?_ (fun _ => rfl) _
          simp only [ev, eg, est]
          refine s_smc cx (glB_ok c h7) (dbgB_ok h8).1 eg est n2 ?_ (hl.1 k _ X W n cx c h14) (mth_eval rfl h11 n2 (of_decide_eq_true h12))
          intro e0 env
          subst e0
          cases l with
          | nil => simp only [evs]
          | cons _ _ => cases n1
      | _ => cases h13
  · cases h
theorem e_dc1 (x : Str) (ha : SE G P C a) : SE G P C (.dc1 x a) := by
  intro k e X W n cx c h
  simp only [cE] at h
  split at h
  · obtain ⟨h1, h2⟩ := ba h
    have ex := of_decide_eq_true h1
    subst ex
    refine tru_of (fa := fun e => ev P C (.dc1 x a) e) cx ?_ (fun _ => rfl) _
    simp only [ev]
    exact s_dc1 (ha k _ X W n cx c h2).1
  · cases h
theorem e_never {a : E} (h : ∀ k e, cE P G.nm G.gn a k e = false) : SE G P C a := fun k e X W n cx c q => by rw [h] at q; cases q
theorem e_any : SE G P C .any := fun k e X W n cx c h => ⟨⟨fun _ _ _ _ _ _ ⟨_, _, _, _, _, q⟩ => q.elim⟩, fun z => by cases z⟩
theorem es_nil : SEs G P C .nil := by
  refine ⟨fun k es X W n cx c h => ?_, fun k kws X W n cx c h => ?_, fun k es X W n pos cx c h => (by cases h), fun fl k es X W n cx c h => ?_⟩
  · cases es with
    | nil => exact a_nil
    | cons _ _ => cases h
  · cases kws with
    | nil => exact k_nil
    | cons _ _ => cases h
  · obtain ⟨h1, h2⟩ := ba h
    have e1 : es = [] := by simpa using h2
    subst e1
    have e0 : evst P C .nil fl = fun _ => M.ret [] := by
      funext e
      simp only [evst]
    rw [e0]
    exact a_nil
theorem es_cons (ha : SE G P C a) (hl : SEs G P C l) : SEs G P C (.cons a l) := by
  refine ⟨fun k es X W n cx c h => ?_, fun k kws X W n cx c h => ?_, fun k es X W n pos cx c h => ?_, fun fl k es X W n cx c h => ?_⟩
  · cases es with
    | nil => cases h
    | cons x xs =>
      simp only [cEs] at h
      obtain ⟨h1, h2⟩ := ba h
      obtain ⟨h3, h4⟩ := ba h2
      exact a_cons (ha k _ X W n cx c h3).1 (hl.1 k _ X W n cx c h4) (star_cons h1)
  · cases kws with
    | nil => cases h
    | cons x xs =>
      simp only [List.map_cons, cEs] at h
      obtain ⟨h1, h2⟩ := ba h
      obtain ⟨h3, h4⟩ := ba h2
      obtain ⟨o, v, q⟩ := x
      exact k_cons (ha k _ X W n cx c h3).1 (hl.2.1 k _ X W n cx c h4)
  · cases es with
    | nil => cases h
    | cons x xs =>
      simp only [cB] at h
      obtain ⟨h1, h2⟩ := ba h
      obtain ⟨h3, h4⟩ := ba h2
      obtain ⟨a1, a2⟩ := ha k _ X W n cx c h3
      cases l with
      | nil =>
        have ex : xs = [] := by simpa using h4
        subst ex
        exact ⟨⟨s_one a1, w_one_and (a2 h1)⟩, s_one a1, w_one_or (a2 h1)⟩
      | cons b r =>
        cases xs with
        | nil => simp [cB] at h4
        | cons y ys =>
          obtain ⟨⟨b1, b2⟩, b3, b4⟩ := hl.2.2.1 k _ X W n pos cx c h4
          exact ⟨⟨s_and cx a1 b1, w_and (a2 h1) b2⟩, s_or cx a1 b3, w_or (a2 h1) b4⟩
  · cases fl with
    | nil => simp [cSt] at h
    | cons q fl =>
      cases es with
      | nil => cases q <;> simp [cSt] at h
      | cons x xs =>
        cases q with
        | false =>
          simp only [cSt] at h
          obtain ⟨h1, h2⟩ := ba h
          obtain ⟨h3, h4⟩ := ba h2
          have z := a_cons (ha k _ X W n cx c h3).1 (hl.2.2.2 fl k _ X W n cx c h4) (star_cons h1)
          have e0 : evst P C (.cons a l) (false :: fl) = fun e => (ev P C a e).bind fun x => (evst P C l fl e).bind fun ys => M.ret (x :: ys) := by
            funext e
            simp only [evst]
          rw [e0]
          exact z
        | true =>
          cases x <;> first | (simp [cSt] at h; done) | skip
          rename_i y py
          simp only [cSt] at h
          obtain ⟨h3, h4⟩ := ba h
          have z := a_star (sp := py) cx (ha k _ X W n cx c h3).1 (hl.2.2.2 fl k _ X W n cx c h4)
          have e0 : evst P C (.cons a l) (true :: fl) = fun e => (ev P C a e).bind fun x => (M.opt (seqD x)).bind fun xs => (evst P C l fl e).bind fun ys => M.ret (xs ++ ys) := by
            funext e
            simp only [evst]
          rw [e0]
          exact z
theorem o_noS : SO G P C .no := by
  refine ⟨fun k e X W n cx c h => ?_, fun k l X W n cx c h => ?_⟩
  · cases e with
    | none => exact o_no
    | some _ => cases h
  · cases l with
    | nil => exact pts_no
    | cons _ _ => cases h
theorem o_yesS (ha : SE G P C a) : SO G P C (.yes a) := by
  refine ⟨fun k e X W n cx c h => ?_, fun k l X W n cx c h => ?_⟩
  · cases e with
    | none => cases h
    | some x => exact o_yes (ha k _ X W n cx c h).1
  · simp only [cIf] at h
    split at h
    · obtain ⟨h1, h2⟩ := ba h
      exact pts_one ((ha k _ X W n cx c h2).2 h1)
    · cases h
theorem i_seqS (ha : SE G P C a) : SI G P C (.seq a) := fun k e X W n tg cx c h => i_seq cx (ha k e X W n cx c h).1
theorem i_rng1S (ha : SE G P C a) : SI G P C (.rng1 a) := by
  intro k e X W n tg cx c h
  simp only [cI] at h
  split at h
  · obtain ⟨h1, h2⟩ := ba h
    obtain ⟨h3, h4⟩ := ba h1
    obtain ⟨h5, h6⟩ := ba h2
    have ex := of_decide_eq_true h3
    subst ex
    exact i_rng1 cx (glB_ok c h4) h5 (ha k _ X W n cx c h6).1
  · cases h
theorem i_rng2S (ha : SE G P C a) (hb : SE G P C b) : SI G P C (.rng2 a b) := by
  intro k e X W n tg cx c h
  simp only [cI] at h
  split at h
  · obtain ⟨h1, h2⟩ := ba h
    obtain ⟨h3, h4⟩ := ba h1
    obtain ⟨h5, h6⟩ := ba h2
    obtain ⟨h7, h8⟩ := ba h5
    obtain ⟨h9, h10⟩ := ba h6
    have ex := of_decide_eq_true h3
    subst ex
    exact i_rng2 cx (glB_ok c h4) h7 h8 (ha k _ X W n cx c h9).1 (hb k _ X W n cx c h10).1
  · cases h
theorem i_enumS : SI G P C (.enum a) := fun k e X W n tg cx c h => by cases h
end
theorem sE (a : E) : SE G P C a :=
  E.rec (motive_1 := SE G P C) (motive_2 := SEs G P C) (motive_3 := SO G P C) (motive_4 := SI G P C) e_var e_cst e_glo (fun op _ _ ha hb => e_bin op ha hb) (fun _ h => e_neg h) (fun _ h => e_inv h) (fun op _ _ ha hb => e_cmp op ha hb) (fun o1 o2 _ _ _ ha hb hc => e_chn o1 o2 ha hb hc) (fun _ h => e_and h) (fun _ h => e_or h) (fun _ h => e_not h)
    (fun _ _ _ hc ha hb => e_ite hc ha hb) (fun _ h => e_tup h) (fun _ h => e_lst h) (fun _ f h => e_atr f h) (fun _ _ ha hb => e_sub ha hb) (fun _ _ _ ha hl hh => e_slc ha hl hh) (fun g _ ks _ hl hk => e_call g ks hl hk) (fun _ f _ ha hl => e_mth f ha hl) (fun i _ hl => e_cal i hl) (fun f _ hl => e_blt f hl)
    (fun _ ct g ha => e_isi ct g ha) (fun _ t _ _ own ha hi hc => e_lc t own ha hi hc) (fun _ h => e_lrg h) e_lcal (fun g f caps _ hl => e_clam g f caps hl) (fun ks l _ => e_dic ks l) (fun _ _ ha hb => e_lrg2 ha hb) (fun g _ ha => e_mkx g ha) (fun _ t j _ own ha hc => e_lcr t j own ha hc) (fun q _ _ ha hl => e_sm q ha hl) (fun tp fl _ hl => e_std tp fl hl) (fun g f _ hl => e_smc g f hl) (fun _ _ => e_never fun _ _ => by simp only [cE]) (fun x _ ha => e_dc1 x ha) e_any es_nil (fun _ _ ha hl => es_cons ha hl) o_noS (fun _ h => o_yesS h) (fun _ h => i_seqS h) (fun _ h => i_rng1S h) (fun _ _ ha hb => i_rng2S ha hb) (fun _ _ => i_enumS) a
theorem sEs (l : Es) : SEs G P C l := match l with
  | .nil => es_nil
  | .cons a r => es_cons (sE a) (sEs r)
theorem sI (i : Tn.It) : SI G P C i := match i with
  | .seq a => i_seqS (sE a)
  | .rng1 a => i_rng1S (sE a)
  | .rng2 a b => i_rng2S (sE a) (sE b)
  | .enum a => i_enumS
end
end Tn

set_option Elab.async false
set_option linter.all false
set_option maxRecDepth 100000
set_option maxHeartbeats 1000000
namespace Tn
open PySem PySem.Spec PyProof.Rows L2

def swB : Expr → Bool
  | .ListComp _ _ _ _ => false
  | .SetComp _ _ _ _ => false
  | .DictComp _ _ _ _ _ => false
  | _ => true
def isTup : Expr → Bool
  | .Tuple _ _ _ => true
  | .List _ _ => true
  | _ => false
def isTupV : Expr → Bool
  | .Tuple _ _ _ => true
  | _ => false
def starB : Expr → Bool
  | .Starred _ _ => true
  | _ => false
/-- a, b = x, y stored from the right -/
def parB (k : Ck) (l : List Nat) (ts vs : List Expr) : Bool := match l, ts with
  | [i, j], [.Name x px, .Name y py] => ((decide (k.N[i]? = some x) && decide (k.N[j]? = some y)) && (decide (i ≠ j) && decide (x ≠ y))) && (((lclB k.sc x && lclB k.sc y) && (py.line == px.line && decide (vs.length = 2))) && ((!vs.any starB && nsts vs) && (!vs.all (foldedForSure 8) && !vs.all (constantsAlone 8))))
  | [i, j, q], [.Name x px, .Name y py, .Name z pz] => ((decide (k.N[i]? = some x) && (decide (k.N[j]? = some y) && decide (k.N[q]? = some z))) && ((decide (i ≠ j) && (decide (i ≠ q) && decide (j ≠ q))) && (decide (x ≠ y) && (decide (x ≠ z) && decide (y ≠ z))))) &&
      (((lclB k.sc x && (lclB k.sc y && lclB k.sc z)) && ((py.line == px.line && pz.line == px.line) && decide (vs.length = 3))) && ((!vs.any starB && nsts vs) && (!vs.all (foldedForSure 8) && !vs.all (constantsAlone 8))))
  | _, _ => false
/-- name = [..]: one line, the name a local that the block does not own -/
def setLcB (k : Ck) (tg e : Expr) : Bool := match tg, e with
  | .Name y py, .ListComp _ _ scope pos => lclB k.sc y && ((py.line == pos.line) && !(scope.names.any fun (n, q) => n == y && (q == .local || q == .cell)))
  | _, _ => false
/-- what an except clause may do -/
def hdB (k : Ck) (i : Option Nat) (h : Ss) (nn : Option Str) (suite : List Stmt) : Bool := match i, h, nn, suite with
  | some i, .cons (.asg (.nm j) (.var i')) .nil, some n, [.Assign [.Name y _] (.Name n' _) _] => ((decide (i = i') && decide (i ≠ j)) && (decide (k.N[i]? = some n) && (decide (n = n') && (lclB k.sc n && dbgB n)))) && (decide (k.N[j]? = some y) && lclB k.sc y)
  | none, .cons (.ret (.cst d)) .nil, none, [.Return (some (.Constant c _ _)) _] => cstB d c
  | none, .cons (.asg (.nm j) (.cst d)) .nil, none, [.Assign [.Name y _] (.Constant c _ _) _] => cstB d c && (decide (k.N[j]? = some y) && lclB k.sc y)
  | _, _, _, _ => false
/-- a, b = x, y: some name no plain local, or more than three: not stored from the right -/
def nsB (k : Ck) (tg e : Expr) : Bool := match tg, e with
  | .Tuple ts _ _, .Tuple _ _ _ => ts.any fun t => match t with
    | .Name x _ => !lclB k.sc x
    | _ => false
  | _, _ => false
def isLcr : E → Bool
  | .lcr _ _ _ _ _ => true
  | _ => false
/-- not stored within a comprehension's frame -/
def sw2 (tg e : Expr) : Bool := swB e || isTupV tg
section
variable (P : Pg) (nm gn : Nat → Str)
mutual
def cS : S → Ck → Stmt → Bool
  | .any, _, _ => true
  | .pass, _, s => (match s with
    | .Pass _ => true
    | .Expr (.Constant (.str _) _ _) _ => true
    | _ => false)
  | .exp a, k, s => (match s with
    | .Expr e _ => swB e && cE P nm gn a k e
    | _ => false)
  | .asg t a, k, s => (match s with
    | .Assign [tg] e _ => (tgB k t tg && cE P nm gn a k e) && (((sw2 tg e && (!isTup tg || !isTupV e)) || (swB e && nsB k tg e)) || (setLcB k tg e && !isLcr a))
    | _ => false)
  | .par l es, k, s => (match s with
    | .Assign [.Tuple ts _ _] (.Tuple vs _ _) _ => parB k l ts vs && cEs P nm gn es k vs
    | _ => false)
  | .new i es, k, s => (match s with
    | .Assign [.Name x _] (.List vs _) _ => (decide (k.N[i]? = some x) && (locB k.st x && decide (vs.length ≤ strTop))) && cEs P nm gn es k vs
    | _ => false)
  | .setf a f b, k, s => (match s with
    | .Assign [.Attribute o y _] e _ => (decide (y = nm f) && swB e) && (cE P nm gn a k o && cE P nm gn b k e)
    | _ => false)
  | .seti a i b, k, s => (match s with
    | .Assign [.Subscript o j _] e _ => (notSlice j && swB e) && (cE P nm gn a k o && (cE P nm gn i k j && cE P nm gn b k e))
    | _ => false)
  | .app a b, k, s => (match s with
    | .Expr (.Call (.Attribute (.Name x xp) y ap) [z] [] cp) _ => (decide (y = Str.ofString "append") && (nst z && ap.endLine == cp.line)) && (cE P nm gn a k (.Name x xp) && cE P nm gn b k z)
    | _ => false)
  | .ext a b, k, s => (match s with
    | .Expr (.Call (.Attribute (.Name x xp) y ap) [z] [] cp) _ => (decide (y = Str.ofString "extend") && (nst z && ap.endLine == cp.line)) && (cE P nm gn a k (.Name x xp) && cE P nm gn b k z)
    | _ => false)
  | .foe t a b, k, s => (match s with
    | .For (.Tuple ts kk tp) (.Call (.Name x xp) [y] [] cp) body [] _ => ((decide (x = Str.ofString "enumerate") && glB k.sc x) && (tgB k t (.Tuple ts kk tp) && (nst y && cE P nm gn a k y))) && cSs b k body
    | _ => false)
  | .ite c t f, k, s => (match s with
    | .If e x y _ => (tstB c && cE P nm gn c k e) && (cSs t k x && cSs f k y)
    | _ => false)
  | .ret a, k, s => (match s with
    | .Return (some e) _ => cE P nm gn a k e
    | _ => false)
  | .retN, _, s => (match s with
    | .Return none _ => true
    | _ => false)
  | .rnw es, k, s => (match s with
    | .Return (some (.List vs _)) _ => decide (vs.length ≤ strTop) && cEs P nm gn es k vs
    | _ => false)
  | .fo t i b, k, s => (match s with
    | .For tg iter body [] _ => (tgB k t tg && (notSet iter && cI P nm gn i k iter)) && cSs b k body
    | _ => false)
  | .wh _ _, _, _ => false
  | .brk, _, s => (match s with
    | .Break _ => true
    | _ => false)
  | .cont, _, s => (match s with
    | .Continue _ => true
    | _ => false)
  | .rse g a, k, s => (match s with
    | .Raise (some (.Call (.Name x _) [y] [] _)) none _ => (decide (x = gn g) && (glB k.sc x && dbgB x)) && (excB P g && (nst y && cE P nm gn a k y))
    | _ => false)
  | .tr b g i h, k, s => (match s with
    | .Try body [.ExceptHandler (some (.Name x _)) nn suite _] [] [] _ => ((decide (x = gn g) && (glB k.sc x && dbgB x)) && (excB P g && hdB k i h nn suite)) && cSs b k body
    | _ => false)
def cSs : Ss → Ck → List Stmt → Bool
  | .nil, _, l => l.isEmpty
  | .cons a r, k, l => (match l with
    | x :: xs => cS a k x && cSs r k xs
    | _ => false)
end
end
section
variable {G : Gl} {P : Pg} {C : Tn.Call} {X : Cx} {W : WX} {n : Nat} {k : Ck}
theorem swB_ok {e : Expr} {t : Option Expr} {l : Nat} {env : PySem.Env} (h : swB e = true) : swapsWith e t l env = pure false := by
  cases e <;> first | rfl | cases h
theorem lclB_ok {x : Str} (c : CtxK G k X) (h : lclB k.sc x = true) : X.env.scope.names.lookup x = some .local := by
  rw [c.sc]
  unfold lclB at h
  cases e : k.sc.names.lookup x with
  | none => rw [e] at h; cases h
  | some q => rw [e] at h; cases q <;> simp_all
theorem stores_none {tg e : Expr} {env : PySem.Env} (h : (!isTup tg || !isTupV e) = true) : swappedStores [tg] e env = pure none := by
  cases tg <;> first | rfl | (cases e <;> first | rfl | (cases h; done))
theorem fm_lt {α β : Type} {f : α → Option β} : ∀ {l : List α} {a : α}, a ∈ l → f a = none → (l.filterMap f).length ≠ l.length := by
  intro l a ha hf
  have le : ∀ l : List α, (l.filterMap f).length ≤ l.length := fun l => List.length_filterMap_le f l
  induction l with
  | nil => cases ha
  | cons b r ih =>
    have hr := le r
    rcases List.mem_cons.mp ha with rfl | ha
    · rw [List.filterMap_cons, hf]
      simp only [List.length_cons]
      omega
    · have z := ih ha
      rw [List.filterMap_cons]
      cases f b with
      | none => simp only [List.length_cons]; omega
      | some y => simp only [List.length_cons]; omega
theorem nsB_ok {tg e : Expr} (c : CtxK G k X) (h : nsB k tg e = true) : swappedStores [tg] e X.env = pure none := by
  unfold nsB at h
  split at h
  · rename_i ts kt pt vs k2 p2
    obtain ⟨t, ht, h2⟩ := List.any_eq_true.mp h
    cases t <;> first | (cases h2; done) | skip
    rename_i x px
    have nl : X.env.kindOf x ≠ some .local := fun z => by
      have z2 : k.sc.names.lookup x = some .local := by rw [← c.sc]; exact z
      simp [lclB, z2] at h2
    unfold swappedStores
    simp only [pure_bind]
    split
    · rfl
    · split
      · rfl
      · have q := fm_lt (f := fun (e : Expr) => match e with
          | .Name id pos => if X.env.kindOf id == some .local && pos.line == (ts.head?.map (·.pos.line)).getD 0 then some id else none
          | _ => none) ht (by
            have : (X.env.kindOf x == some .local) = false := by simpa using nl
            simp [this])
        rw [if_pos (by
          simp only [Bool.or_eq_true, bne_iff_ne]
          exact .inl q)]
  · cases h
theorem bk_fn {env : PySem.Env} (hk : env.scope.kind = .function) : (env.blockKind != .function) = false := by
  unfold Env.blockKind
  rw [hk]
  rfl
theorem two_ne {x y : Str} (h : x ≠ y) : ([x, y].eraseDups.length != [x, y].length) = false := by
  have e : (y == x) = false := by simpa using fun z : y = x => h z.symm
  have e2 : [x, y].eraseDups = [x, y] := by
    simp [List.eraseDups_cons, List.filter, e]
  rw [e2]
  simp
theorem three_ne {x y z : Str} (h : x ≠ y) (h2 : x ≠ z) (h3 : y ≠ z) : ([x, y, z].eraseDups.length != [x, y, z].length) = false := by
  have e1 : (y == x) = false := by simpa using fun q : y = x => h q.symm
  have e2 : (z == x) = false := by simpa using fun q : z = x => h2 q.symm
  have e3 : (z == y) = false := by simpa using fun q : z = y => h3 q.symm
  have e4 : [x, y, z].eraseDups = [x, y, z] := by
    simp [List.eraseDups_cons, List.filter, e1, e2, e3]
  rw [e4]
  simp
def isStar (e : Expr) : Bool := match e with | .Starred .. => true | _ => false
theorem nst_m {a : Expr} (h : nst a = true) : isStar a = false := by
  cases a <;> first | rfl | cases h
theorem stores2 {x y : Str} {px py pt pt2 : Pos} {kt k2 : Nat} {a b : Expr} {env : PySem.Env} (hk : env.scope.kind = .function) (h1 : env.kindOf x = some .local) (h2 : env.kindOf y = some .local) (hp : (py.line == px.line) = true) (ha : nst a = true) (hb : nst b = true) (hf : [a, b].all (foldedForSure 8) = false) (hc : [a, b].all (constantsAlone 8) = false) (hn : x ≠ y) :
    swappedStores [.Tuple [.Name x px, .Name y py] kt pt] (.Tuple [a, b] k2 pt2) env = pure (some [x, y]) := by
  have e1 : (some NameKind.local == some NameKind.local) = true := rfl
  have e2 := two_ne hn
  have s1 : [a, b].any isStar = false := by simp [nst_m ha, nst_m hb]
  have nf : (List.filterMap (fun | .Name id pos => if (env.kindOf id == some .local && pos.line == px.line) = true then some id else none | _ => none) [Expr.Name x px, Expr.Name y py]) = [x, y] := by
    simp [List.filterMap, h1, h2, hp]
  have b0 := bk_fn hk
  show (if (!(2 == 2 || 2 == 3) || 2 != 2 || env.blockKind != .function) = true then (pure none : Sem (Option (List Str))) else if [a, b].any isStar = true then pure none else
    if ((List.filterMap (fun | .Name id pos => if (env.kindOf id == some .local && pos.line == px.line) = true then some id else none | _ => none) [Expr.Name x px, Expr.Name y py]).length != 2 || (List.filterMap (fun | .Name id pos => if (env.kindOf id == some .local && pos.line == px.line) = true then some id else none | _ => none) [Expr.Name x px, Expr.Name y py]).eraseDups.length != (List.filterMap (fun | .Name id pos => if (env.kindOf id == some .local && pos.line == px.line) = true then some id else none | _ => none) [Expr.Name x px, Expr.Name y py]).length) = true then pure none else
    if [a, b].all (foldedForSure 8) = true then pure none else if [a, b].all (constantsAlone 8) = true then _ else pure (some (List.filterMap (fun | .Name id pos => if (env.kindOf id == some .local && pos.line == px.line) = true then some id else none | _ => none) [Expr.Name x px, Expr.Name y py]))) = _
  rw [nf, b0, s1, hf, hc, e2]
  rfl
theorem stores3 {x y z : Str} {px py pz pt pt2 : Pos} {kt k2 : Nat} {a b c : Expr} {env : PySem.Env} (hk : env.scope.kind = .function) (h1 : env.kindOf x = some .local) (h2 : env.kindOf y = some .local) (h3 : env.kindOf z = some .local) (hp : (py.line == px.line) = true) (hp2 : (pz.line == px.line) = true) (ha : nst a = true) (hb : nst b = true) (hcc : nst c = true)
    (hf : [a, b, c].all (foldedForSure 8) = false) (hc : [a, b, c].all (constantsAlone 8) = false) (n1 : x ≠ y) (n2 : x ≠ z) (n3 : y ≠ z) :
    swappedStores [.Tuple [.Name x px, .Name y py, .Name z pz] kt pt] (.Tuple [a, b, c] k2 pt2) env = pure (some [x, y, z]) := by
  have e1 : (some NameKind.local == some NameKind.local) = true := rfl
  have e2 := three_ne n1 n2 n3
  have s1 : [a, b, c].any isStar = false := by simp [nst_m ha, nst_m hb, nst_m hcc]
  have nf : (List.filterMap (fun | .Name id pos => if (env.kindOf id == some .local && pos.line == px.line) = true then some id else none | _ => none) [Expr.Name x px, Expr.Name y py, Expr.Name z pz]) = [x, y, z] := by
    simp [List.filterMap, h1, h2, h3, hp, hp2]
  have b0 := bk_fn hk
  show (if (!(3 == 2 || 3 == 3) || 3 != 3 || env.blockKind != .function) = true then (pure none : Sem (Option (List Str))) else if [a, b, c].any isStar = true then pure none else
    if ((List.filterMap (fun | .Name id pos => if (env.kindOf id == some .local && pos.line == px.line) = true then some id else none | _ => none) [Expr.Name x px, Expr.Name y py, Expr.Name z pz]).length != 3 || (List.filterMap (fun | .Name id pos => if (env.kindOf id == some .local && pos.line == px.line) = true then some id else none | _ => none) [Expr.Name x px, Expr.Name y py, Expr.Name z pz]).eraseDups.length != (List.filterMap (fun | .Name id pos => if (env.kindOf id == some .local && pos.line == px.line) = true then some id else none | _ => none) [Expr.Name x px, Expr.Name y py, Expr.Name z pz]).length) = true then pure none else
    if [a, b, c].all (foldedForSure 8) = true then pure none else if [a, b, c].all (constantsAlone 8) = true then _ else pure (some (List.filterMap (fun | .Name id pos => if (env.kindOf id == some .local && pos.line == px.line) = true then some id else none | _ => none) [Expr.Name x px, Expr.Name y py, Expr.Name z pz]))) = _
  rw [nf, b0, s1, hf, hc, e2]
  rfl

/-! ### name = [.. for ..] -/
theorem x_setLc (cx : Cok G P C X W n) {i : Nat} {y : Str} {py spos : Pos} {t : Tg} {own : List (Str × Nat)} {scope : Scope} {elt tg iter : Expr} {ifs : List Expr} {pos : Pos} {fi : Env → M (List Tn.W)} {fb : Env → M Bool} {fe : Env → M Tn.W} (hy : X.N[i]? = some y) (hyl : X.env.scope.names.lookup y = some .local)
    (hsw : swapsWith (.ListComp elt [⟨tg, iter, ifs, 0⟩] scope pos) (some (.Name y py)) spos.line X.env = pure true) (hi : PI X tg iter (tMI G W fi)) (ok : BlkOk X.N X.env.scope scope own) (ht : ∀ i ∈ t.ix, i ∈ own.map (·.2))
    (hg : ∀ (s : Shared) (H : Hp) (C : Addr) (cl : List (Str × Addr)) (fp : List Addr), PG (X.blk s H scope (compEnvC scope cl C X.env) fp) tg (gTg X.K t)) (hc : ∀ (s : Shared) (H : Hp) (C : Addr) (cl : List (Str × Addr)) (fp : List Addr), PTs (X.blk s H scope (compEnvC scope cl C X.env) fp) ifs (tMB G (fun _ _ _ _ => False) fb))
    (he : ∀ (s : Shared) (H : Hp) (C : Addr) (cl : List (Str × Addr)) (fp : List Addr), PE (X.blk s H scope (compEnvC scope cl C X.env) fp) elt (tM G (fun _ _ _ _ => False) fe)) (hs : ∀ x, foldedSetIterable iter X.env x = pure x) :
    PS X (.Assign [.Name y py] (.ListComp elt [⟨tg, iter, ifs, 0⟩] scope pos) spos) (tX G W fun e m => Out.ofR e (((fi e).bind fun ws => fun m => endL m.length (goL (lcF t (own.map (·.2)) fb fe e) m.length ws (m ++ [.lst []]))) m) fun w m1 => .nx (e.set i (some w)) m1) := by
  refine ⟨fun pins s σ H D I ⟨ι, e, m, r, er, h⟩ => (ps_setLc cx.calm cx.nd hy hyl hsw hi ok hg hc he hs).run pins s σ H D I (lc_reads cx ht σ H _ ⟨ι, e, m, r, er, ?_⟩)⟩
  exact ofR h er fun w m1 v ι1 H1 _ x r1 d er1 q => q _ ι1 H1 Ex.refl r1 (er1.set i d)

/-! ### statements -/
theorem nb {b : Bool} (h : (!b) = true) : b = false := by cases b <;> simp_all
theorem setLc_inv {tg e : Expr} (h : setLcB k tg e = true) : ∃ y py elt gs scope lpos, tg = .Name y py ∧ e = .ListComp elt gs scope lpos ∧ lclB k.sc y = true ∧ (py.line == lpos.line) = true ∧ (scope.names.any fun (n, q) => n == y && (q == .local || q == .cell)) = false := by
  cases tg <;> first | (cases h; done) | skip
  cases e <;> first | (cases h; done) | skip
  rename_i y py elt gs scope lpos
  obtain ⟨h5, h6⟩ := ba h
  obtain ⟨h7, h8⟩ := ba h6
  exact ⟨y, py, elt, gs, scope, lpos, rfl, rfl, h5, h7, nb h8⟩
theorem lc_inv {a : E} {t : Tg} {it : Tn.It} {o : Oe} {own : List Nat} {elt : Expr} {gs : List Comprehension} {scope : Scope} {pos : Pos} (h : cE P G.nm G.gn (.lc a t it o own) k (.ListComp elt gs scope pos) = true) : ∃ tg iter ifs, gs = [⟨tg, iter, ifs, 0⟩] ∧
    ((blkC k.N k.sc scope (ownP k.N own) && (t.ix.all fun j => own.contains j)) && ((cI P G.nm G.gn it k iter && notSet iter) && (tgB ⟨k.N, relS scope k.sc, scope, false, k.lc⟩ t tg && (cIf P G.nm G.gn o ⟨k.N, relS scope k.sc, scope, false, k.lc⟩ ifs && cE P G.nm G.gn a ⟨k.N, relS scope k.sc, scope, false, k.lc⟩ elt)))) = true := by
  simp only [cE] at h
  split at h
  · rename_i heq
    cases heq
    exact ⟨_, _, _, rfl, h⟩
  · cases h
def SS (G : Gl) (P : Pg) (C : Tn.Call) (a : S) : Prop := ∀ (k : Ck) (s : Stmt) (X : Cx) (W : WX) (n : Nat), Cok G P C X W n → CtxK G k X → PassesOwn (model X.prog X.w) X.A X.env X.xe → Own0 X → cS P G.nm G.gn a k s = true → PS X s (tX G W (exec P C a))
def SSs (G : Gl) (P : Pg) (C : Tn.Call) (a : Ss) : Prop := ∀ (k : Ck) (s : List Stmt) (X : Cx) (W : WX) (n : Nat), Cok G P C X W n → CtxK G k X → PassesOwn (model X.prog X.w) X.A X.env X.xe → Own0 X → cSs P G.nm G.gn a k s = true → PSs X s (tX G W (execs P C a))
theorem ps_of {s : Stmt} {f g : Env → Mu → Out} (h : PS X s (tX G W f)) (e : f = g) : PS X s (tX G W g) := e ▸ h
theorem z_pass : SS G P C .pass := by
  intro k s X W n cx c hp ow h
  refine ps_of (f := fun e m => .nx e m) ?_ (by funext e m; simp only [exec] <;> rfl)
  simp only [cS] at h
  split at h
  · exact x_pass
  · exact x_doc
  · cases h
theorem z_any : SS G P C .any := fun k s X W n cx c hp ow h => ps_of x_any (by funext e m; simp only [exec] <;> rfl)
theorem z_exp (a : E) : SS G P C (.exp a) := by
  intro k s X W n cx c hp ow h
  simp only [cS] at h
  split at h
  · obtain ⟨h1, h2⟩ := ba h
    exact ps_of (x_exp (sE a k _ X W n cx c h2).1 (swB_ok h1)) (by funext e m; simp only [exec] <;> rfl)
  · cases h
theorem z_app (a b : E) : SS G P C (.app a b) := by
  intro k s X W n cx c hp ow h
  simp only [cS] at h
  split at h
  · obtain ⟨h1, h2⟩ := ba h
    obtain ⟨h3, h4⟩ := ba h1
    obtain ⟨h5, h6⟩ := ba h4
    obtain ⟨h7, h8⟩ := ba h2
    have ex := of_decide_eq_true h3
    subst ex
    exact ps_of (x_app (sE a k _ X W n cx c h7).1 (sE b k _ X W n cx c h8).1 h5 rfl h6 (swB_ok rfl)) (by funext e m; simp only [exec] <;> rfl)
  · cases h
theorem z_ext (a b : E) : SS G P C (.ext a b) := by
  intro k s X W n cx c hp ow h
  simp only [cS] at h
  split at h
  · obtain ⟨h1, h2⟩ := ba h
    obtain ⟨h3, h4⟩ := ba h1
    obtain ⟨h5, h6⟩ := ba h4
    obtain ⟨h7, h8⟩ := ba h2
    have ex := of_decide_eq_true h3
    subst ex
    exact ps_of (x_ext (sE a k _ X W n cx c h7).1 (sE b k _ X W n cx c h8).1 h5 rfl h6 (swB_ok rfl)) (by funext e m; simp only [exec] <;> rfl)
  · cases h
theorem z_asg (t : Tg) (a : E) : SS G P C (.asg t a) := by
  intro k s X W n cx c hp ow h
  simp only [cS] at h
  split at h
  · rename_i tg e pos
    obtain ⟨h1, h2⟩ := ba h
    obtain ⟨h3, h4⟩ := ba h1
    cases hq : ((sw2 tg e && (!isTup tg || !isTupV e)) || (swB e && nsB k tg e)) with
    | true =>
      have h56 : swapsWithSole [tg] e pos.line X.env = pure false ∧ swappedStores [tg] e X.env = pure none := by
        rcases Bool.or_eq_true_iff.mp hq with z | z
        · refine ⟨?_, stores_none (ba z).2⟩
          rcases Bool.or_eq_true_iff.mp (ba z).1 with z | z
          · exact swB_ok z
          · cases tg <;> first | (cases z; done) | (cases e <;> rfl)
        · exact ⟨swB_ok (ba z).1, nsB_ok c (ba z).2⟩
      obtain ⟨h5, h6⟩ := h56
      have ha : (assignEach [tg] X.env).map (·.2) = [assign tg X.env] := by
        cases tg <;> first | rfl | (cases t <;> cases h3)
      exact ps_of (x_asg cx (sE a k _ X W n cx c h4).1 (tg_pg c cx.nd cx.calm h3) h5 h6 ha) (by funext e m; (first | (simp only [exec]; done) | (simp only [exec]; rfl)))
    | false =>
      rw [hq] at h2
      have h2' : (setLcB k tg e && !isLcr a) = true := h2
      obtain ⟨h2, hlr⟩ := ba h2'
      obtain ⟨y, py, elt, gs, scope, lpos, etg, ee, h5, h7, h8⟩ := setLc_inv h2
      subst etg
      subst ee
      cases t with
      | tp l => cases h3
      | nm i =>
          obtain ⟨h9, h10⟩ := ba h3
          cases a with
          | lc el t2 it c2 own =>
              obtain ⟨tg2, iter2, ifs2, egs, h4⟩ := lc_inv h4
              subst egs
              obtain ⟨g1, g2⟩ := ba h4
              obtain ⟨g3, g4⟩ := ba g1
              obtain ⟨g5, g6⟩ := ba g2
              obtain ⟨g7, g8⟩ := ba g5
              obtain ⟨g9, g10⟩ := ba g6
              obtain ⟨g11, g12⟩ := ba g10
              have ok : BlkOk X.N X.env.scope scope (ownP k.N own) := by
                rw [c.N, c.sc]
                exact blkOk_by g3
              have ok2 : BlkOk k.N k.sc scope (ownP k.N own) := blkOk_by g3
              have oS : SO G P C c2 := match c2 with
                | .no => o_noS
                | .yes b => o_yesS (sE b)
              have sw := sw_true (elt := elt) (gs := [⟨tg2, iter2, ifs2, 0⟩]) (scope := scope) (pos := lpos) (py := py) (y := y) (l := pos.line) (env := X.env) (by rw [c.sc]; exact c.kind) (lclB_ok c h5) h7 h8
              have z := x_setLc (fb := evC P C c2) (fe := ev P C el) (t := t2) (own := ownP k.N own) cx (by rw [c.N]; exact of_decide_eq_true h9) (lclB_ok c h5) sw (sI it k iter2 X W n tg2 cx c g7) ok (fun i hi => by
                rw [ownP_map]
                simpa using List.all_eq_true.mp g4 i hi) (fun s H A cl fp => tg_pg (c.blk ok2 s H A cl fp) cx.nd cx.calm g9) (fun s H A cl fp => oS.2 _ _ _ _ n (cx.blk s H scope _ fp) (c.blk ok2 s H A cl fp) g11)
                (fun s H A cl fp => (sE el _ _ _ _ n (cx.blk s H scope _ fp) (c.blk ok2 s H A cl fp) g12).1) (notSet_ok g8)
              rw [ownP_map] at z
              exact ps_of z (by funext e m; (first | (simp only [exec]; done) | (simp only [exec]; rfl)))
          | any => exact ps_of (x_any) (by funext e m; (first | (simp only [exec, ev]; done) | (simp only [exec, ev]; rfl)))
          | lcr _ _ _ _ _ => cases hlr
          | _ => simp only [cE] at h4; cases h4
  · cases h
theorem z_par (l : List Nat) (es : Es) : SS G P C (.par l es) := by
  intro k s X W n cx c hp ow h
  simp only [cS] at h
  split at h
  · rename_i ts kt pt vs k2 pt2 pos
    obtain ⟨h1, h2⟩ := ba h
    have kf : X.env.scope.kind = .function := by rw [c.sc]; exact c.kind
    unfold parB at h1
    split at h1
    · rename_i i j x px y py
      obtain ⟨a1, a2⟩ := ba h1
      obtain ⟨a3, a4⟩ := ba a1
      obtain ⟨a5, a6⟩ := ba a3
      obtain ⟨a7, a8⟩ := ba a4
      obtain ⟨b1, b2⟩ := ba a2
      obtain ⟨b3, b4⟩ := ba b1
      obtain ⟨b5, b6⟩ := ba b3
      obtain ⟨b7, b8⟩ := ba b4
      obtain ⟨c1, c2⟩ := ba b2
      obtain ⟨c3, c4⟩ := ba c1
      obtain ⟨c5, c6⟩ := ba c2
      have hl := of_decide_eq_true b8
      match vs, hl with
      | [a, b], _ =>
        obtain ⟨d1, d2⟩ := ba c4
        obtain ⟨d3, _⟩ := ba d2
        exact ps_of (x_par2 cx (by rw [c.N]; exact of_decide_eq_true a5) (by rw [c.N]; exact of_decide_eq_true a6) (of_decide_eq_true a7) (lclB_ok c b5) (lclB_ok c b6) ((sEs es).1 k _ X W n cx c h2)
          (stores2 kf (lclB_ok c b5) (lclB_ok c b6) b7 d1 d3 (nb c5) (nb c6) (of_decide_eq_true a8))) (by funext e m; simp only [exec] <;> rfl)
    · rename_i i j q x px y py z pz
      obtain ⟨a1, a2⟩ := ba h1
      obtain ⟨a3, a4⟩ := ba a1
      obtain ⟨a5, a6⟩ := ba a3
      obtain ⟨a7, a8⟩ := ba a6
      obtain ⟨a9, a10⟩ := ba a4
      obtain ⟨p1, p2⟩ := ba a9
      obtain ⟨p3, p4⟩ := ba p2
      obtain ⟨q1, q2⟩ := ba a10
      obtain ⟨q3, q4⟩ := ba q2
      obtain ⟨b1, b2⟩ := ba a2
      obtain ⟨b3, b4⟩ := ba b1
      obtain ⟨b5, b6⟩ := ba b3
      obtain ⟨b7, b8⟩ := ba b6
      obtain ⟨b9, b10⟩ := ba b4
      obtain ⟨b11, b12⟩ := ba b9
      obtain ⟨c1, c2⟩ := ba b2
      obtain ⟨c3, c4⟩ := ba c1
      obtain ⟨c5, c6⟩ := ba c2
      have hl := of_decide_eq_true b10
      match vs, hl with
      | [a, b, d], _ =>
        obtain ⟨d1, d2⟩ := ba c4
        obtain ⟨d3, d4⟩ := ba d2
        obtain ⟨d5, _⟩ := ba d4
        exact ps_of (x_par3 cx (by rw [c.N]; exact of_decide_eq_true a5) (by rw [c.N]; exact of_decide_eq_true a7) (by rw [c.N]; exact of_decide_eq_true a8) (of_decide_eq_true p1) (of_decide_eq_true p3) (of_decide_eq_true p4) (lclB_ok c b5) (lclB_ok c b7) (lclB_ok c b8) ((sEs es).1 k _ X W n cx c h2)
          (stores3 kf (lclB_ok c b5) (lclB_ok c b7) (lclB_ok c b8) b11 b12 d1 d3 d5 (nb c5) (nb c6) (of_decide_eq_true q1) (of_decide_eq_true q3) (of_decide_eq_true q4))) (by funext e m; simp only [exec] <;> rfl)
    · cases h1
  · cases h
theorem z_new (i : Nat) (es : Es) : SS G P C (.new i es) := by
  intro k s X W n cx c hp ow h
  simp only [cS] at h
  split at h
  · rename_i x px vs pv pos
    obtain ⟨h1, h2⟩ := ba h
    obtain ⟨h3, h4⟩ := ba h1
    obtain ⟨h5, h6⟩ := ba h4
    obtain ⟨u, v⟩ := c.st x h5
    have hn := (Es_len h2).1
    exact ps_of (x_new cx.nd (by rw [c.N]; exact of_decide_eq_true h3) u v (of_decide_eq_true h6) ((sEs es).1 k _ X W n cx c h2) fun e m ws m1 q => by rw [evs_len q, hn]) (by funext e m; simp only [exec] <;> rfl)
  · cases h
theorem z_setf (a b : E) (f : Nat) : SS G P C (.setf a f b) := by
  intro k s X W n cx c hp ow h
  simp only [cS] at h
  split at h
  · obtain ⟨h1, h2⟩ := ba h
    obtain ⟨h3, h4⟩ := ba h1
    obtain ⟨h5, h6⟩ := ba h2
    have ex := of_decide_eq_true h3
    subst ex
    exact ps_of (x_setf cx (sE a k _ X W n cx c h5).1 (sE b k _ X W n cx c h6).1 (swB_ok h4)) (by funext e m; (first | (simp only [exec]; done) | (simp only [exec]; rfl)))
  · cases h
theorem z_seti (a b i : E) : SS G P C (.seti a i b) := by
  intro k s X W n cx c hp ow h
  simp only [cS] at h
  split at h
  · obtain ⟨h1, h2⟩ := ba h
    obtain ⟨h3, h4⟩ := ba h1
    obtain ⟨h5, h6⟩ := ba h2
    obtain ⟨h7, h8⟩ := ba h6
    exact ps_of (x_seti cx (sE a k _ X W n cx c h5).1 (sE i k _ X W n cx c h7).1 (sE b k _ X W n cx c h8).1 (swB_ok h4) (fun x y z q e => by subst e; cases h3) rfl) (by funext e m; (first | (simp only [exec]; done) | (simp only [exec]; rfl)))
  · cases h
theorem z_ite (c' : E) {t f : Ss} (ht : SSs G P C t) (hf : SSs G P C f) : SS G P C (.ite c' t f) := by
  intro k s X W n cx c hp ow h
  simp only [cS] at h
  split at h
  · obtain ⟨h1, h2⟩ := ba h
    obtain ⟨h3, h4⟩ := ba h1
    obtain ⟨h5, h6⟩ := ba h2
    exact ps_of (x_if ((sE c' k _ X W n cx c h4).2 h3) (ht k _ X W n cx c hp ow h5) (hf k _ X W n cx c hp ow h6)) (by funext e m; (first | (simp only [exec]; done) | (simp only [exec]; rfl)))
  · cases h
theorem z_ret (a : E) : SS G P C (.ret a) := by
  intro k s X W n cx c hp ow h
  simp only [cS] at h
  split at h
  · exact ps_of (x_ret (sE a k _ X W n cx c h).1) (by funext e m; simp only [exec] <;> rfl)
  · cases h
theorem z_retN : SS G P C .retN := by
  intro k s X W n cx c hp ow h
  simp only [cS] at h
  split at h
  · exact ps_of x_retN (by funext e m; simp only [exec] <;> rfl)
  · cases h
theorem z_rnw (es : Es) : SS G P C (.rnw es) := by
  intro k s X W n cx c hp ow h
  simp only [cS] at h
  split at h
  · obtain ⟨h1, h2⟩ := ba h
    have hn := (Es_len h2).1
    exact ps_of (x_rnw (of_decide_eq_true h1) ((sEs es).1 k _ X W n cx c h2) fun e m ws m1 q => by rw [evs_len q, hn]) (by funext e m; simp only [exec] <;> rfl)
  · cases h
theorem z_fo (t : Tg) (i : Tn.It) {b : Ss} (hb : SSs G P C b) : SS G P C (.fo t i b) := by
  intro k s X W n cx c hp ow h
  simp only [cS] at h
  split at h
  · obtain ⟨h1, h2⟩ := ba h
    obtain ⟨h3, h4⟩ := ba h1
    obtain ⟨h5, h6⟩ := ba h4
    exact ps_of (x_for cx hp (sI i k _ X W n _ cx c h6) (tg_pg c cx.nd cx.calm h3) (hb k _ X W n cx c hp ow h2) (notSet_ok h5)) (by funext e m; simp only [exec] <;> rfl)
  · cases h
theorem z_foe (t : Tg) (a : E) {b : Ss} (hb : SSs G P C b) : SS G P C (.foe t a b) := by
  intro k s X W n cx c hp ow h
  simp only [cS] at h
  split at h
  · obtain ⟨h1, h2⟩ := ba h
    obtain ⟨h3, h4⟩ := ba h1
    obtain ⟨h5, h6⟩ := ba h3
    obtain ⟨h7, h8⟩ := ba h4
    obtain ⟨h9, h10⟩ := ba h8
    have ex := of_decide_eq_true h5
    subst ex
    refine ps_of (x_for cx hp (i_enum cx (glB_ok c h6) h9 (sE a k _ X W n cx c h10).1) (tg_pg c cx.nd cx.calm h7) (hb k _ X W n cx c hp ow h2) (notSet_ok rfl)) ?_
    funext e m
    simp only [exec]
    unfold M.bind
    cases ev P C a e m with
    | stuck => rfl
    | exc _ _ _ => rfl
    | ok w m1 =>
      simp only
      cases enumD w <;> rfl
  · cases h
theorem z_brk : SS G P C .brk := by
  intro k s X W n cx c hp ow h
  simp only [cS] at h
  split at h
  · exact ps_of x_brk (by funext e m; simp only [exec] <;> rfl)
  · cases h
theorem z_cont : SS G P C .cont := by
  intro k s X W n cx c hp ow h
  simp only [cS] at h
  split at h
  · exact ps_of x_cont (by funext e m; simp only [exec] <;> rfl)
  · cases h
theorem z_rse (g : Nat) (a : E) : SS G P C (.rse g a) := by
  intro k s X W n cx c hp ow h
  simp only [cS] at h
  split at h
  · obtain ⟨h1, h2⟩ := ba h
    obtain ⟨h3, h4⟩ := ba h1
    obtain ⟨h5, h6⟩ := ba h4
    obtain ⟨h7, h8⟩ := ba h2
    obtain ⟨h9, h10⟩ := ba h8
    have ex := of_decide_eq_true h3
    subst ex
    unfold excB at h7
    cases eg : P.glo[g]? with
    | none => rw [eg] at h7; cases h7
    | some q =>
      rw [eg] at h7
      cases q with
      | exc d => exact ps_of (x_raise cx eg (glB_ok c h5) (dbgB_ok h6).1 h9 (sE a k _ X W n cx c h10).1) (by funext e m; (first | (simp only [exec]; done) | (simp only [exec]; rfl)))
      | _ => cases h7
  · cases h
theorem Cok.tr {X : Cx} {W W' : WX} {n : Nat} {pn : List (Addr × Obj)} {xe : Value → Shared → Prop} (cx : Cok G P C X W n) (tk : Takes (X.tr pn xe) W') : Cok G P C (X.tr pn xe) W' n :=
  ⟨cx.k, cx.calm, cx.room, cx.gd, tk, cx.nd, cx.good, cx.pf, cx.hi, cx.hiL, cx.hiM, cx.rm, cx.loL, cx.lo⟩
theorem CtxK.tr {X : Cx} {k : Ck} (c : CtxK G k X) (pn : List (Addr × Obj)) (xe : Value → Shared → Prop) : CtxK G k (X.tr pn xe) :=
  ⟨c.N, c.sc, c.kind, c.st, fun z => let ⟨ow, cc, tab, q⟩ := c.ml z; ⟨⟨ow.st, ow.fr, ow.ex, ow.fn⟩, cc, tab, ⟨q.tb, q.cd, q.mem, q.one⟩⟩, c.lm⟩
theorem z_tr (g : Nat) (i : Option Nat) (hd : Ss) {b : Ss} (hb : SSs G P C b) : SS G P C (.tr b g i hd) := by
  intro k s X W n cx c hp ow h
  simp only [cS] at h
  split at h
  · rename_i body x px nn suite hpos pos
    obtain ⟨h1, h2⟩ := ba h
    obtain ⟨h3, h4⟩ := ba h1
    obtain ⟨h5, h6⟩ := ba h3
    obtain ⟨h7, h8⟩ := ba h6
    obtain ⟨h9, h10⟩ := ba h4
    have ex := of_decide_eq_true h5
    subst ex
    unfold excB at h9
    cases eg : P.glo[g]? with
    | none => rw [eg] at h9; cases h9
    | some q =>
      rw [eg] at h9
      cases q with
      | exc d =>
        have hbody : ∀ (W' : WX) (pn : List (Addr × Obj)) (xe : Value → Shared → Prop), Takes (X.tr pn xe) W' → PassesOwn (model X.prog X.w) X.A X.env xe → PSs (X.tr pn xe) body (tX G W' (execs P C b)) :=
          fun W' pn xe tk ps => hb k body (X.tr pn xe) W' n (cx.tr tk) (c.tr pn xe) ps ⟨ow.st, ow.fr, ow.ex, ow.fn⟩ h2
        unfold hdB at h10
        split at h10
        · rename_i i' j i'' n0 y py n' pn' pp
          obtain ⟨g1, g2⟩ := ba h10
          obtain ⟨g3, g4⟩ := ba g1
          obtain ⟨g5, g6⟩ := ba g3
          obtain ⟨g7, g8⟩ := ba g4
          obtain ⟨g9, g10⟩ := ba g8
          obtain ⟨g11, g12⟩ := ba g10
          obtain ⟨g13, g14⟩ := ba g2
          have e1 := of_decide_eq_true g5
          have e2 := of_decide_eq_true g9
          subst e1
          subst e2
          refine ps_of (x_tryAs (i := i') (j := j) cx ow (of_decide_eq_true g6) eg (glB_ok c h7) (dbgB_ok h8).1 (by rw [c.N]; exact of_decide_eq_true g7) (lclB_ok c g11) (dbgB_ok g12) (by rw [c.N]; exact of_decide_eq_true g13) (lclB_ok c g14) hbody) ?_
          funext e m
          simp only [exec, trO]
          congr 1
          funext c1 v e1 m1
          simp only [trH, execs, exec, ev]
          cases q : (e1.set i' (some (Tn.W.d (D.exn c1 v))))[i']? with
          | none => rfl
          | some o => cases o <;> rfl
        · rename_i d' q0 q1 q2 q3
          refine ps_of (x_tryOnly cx ow eg (glB_ok c h7) (dbgB_ok h8).1 hbody (fun a pn => su_ret (cst_pe h10))) ?_
          funext e m
          simp only [exec, trO]
          first | (congr 1; done) | (congr 1; funext c1 v e1 m1; first | (simp only [trH, execs, exec, ev]; done) | (simp only [trH, execs, exec, ev]; rfl))
        · rename_i j d' y py q0 q1 q2 q3
          obtain ⟨g1, g2⟩ := ba h10
          obtain ⟨g3, g4⟩ := ba g2
          refine ps_of (x_tryOnly cx ow eg (glB_ok c h7) (dbgB_ok h8).1 hbody (fun a pn => su_set (Y := X.suite a pn) (j := j) cx.nd (by show X.N[j]? = _; rw [c.N]; exact of_decide_eq_true g3) (show X.env.scope.names.lookup _ = _ from lclB_ok c g4) (cst_pe g1) rfl rfl)) ?_
          funext e m
          simp only [exec, trO]
          first | (congr 1; done) | (congr 1; funext c1 v e1 m1; first | (simp only [trH, execs, exec, ev]; done) | (simp only [trH, execs, exec, ev]; rfl))
        · cases h10
      | _ => cases h9
  · cases h
theorem zs_nil : SSs G P C .nil := by
  intro k s X W n cx c hp ow h
  cases s with
  | nil =>
    have z : PSs X [] (tX G W fun e m => .nx e m) := xs_nil
    have e0 : execs P C .nil = fun e m => .nx e m := by funext e m; simp only [execs] <;> rfl
    rw [e0]
    exact z
  | cons _ _ => cases h
theorem zs_cons {a : S} {r : Ss} (ha : SS G P C a) (hr : SSs G P C r) : SSs G P C (.cons a r) := by
  intro k s X W n cx c hp ow h
  cases s with
  | nil => cases h
  | cons x xs =>
    simp only [cSs] at h
    obtain ⟨h1, h2⟩ := ba h
    have z := xs_cons (ha k _ X W n cx c hp ow h1) (hr k _ X W n cx c hp ow h2)
    have e0 : execs P C (.cons a r) = fun e m => match exec P C a e m with | .nx e1 m1 => execs P C r e1 m1 | o => o := by funext e m; simp only [execs] <;> rfl
    rw [e0]
    exact z
theorem sSs (b : Ss) : SSs G P C b :=
  Ss.rec (motive_1 := SS G P C) (motive_2 := SSs G P C) z_pass z_exp z_asg z_par z_new (fun a f b => z_setf a b f) (fun a i b => z_seti a b i) z_app z_ext (fun c' _ _ ht hf => z_ite c' ht hf) z_ret z_retN z_rnw z_any (fun t i _ hb => z_fo t i hb) (fun t a _ hb => z_foe t a hb)
    (fun _ _ _ => fun k s X W n cx c hp ow h => by cases h) z_brk z_cont z_rse (fun _ g i hd hb _ => z_tr g i hd hb) zs_nil (fun _ _ ha hr => zs_cons ha hr) b
end
end Tn

set_option Elab.async false
set_option linter.all false
set_option maxRecDepth 100000
set_option maxHeartbeats 1000000
namespace Tn
open PySem PySem.Spec PyProof.Rows L2

section
variable {G : Gl} {P : Pg} {Pr : Program} {w : World} {mg : Str → Option Value} {base : Heap} {ι : List Addr} {H : Hp} {m : Mu} {Q : VK} {E : XK}
/-- a def as it stands behind the top, and its written form -/
structure FunF (G : Gl) (P : Pg) (f : Nat) (k : Fn) : Prop where
  ex : ∃ (name qual : Str) (params : Arguments) (body : List Stmt) (scope : Scope) (dV kV doc pm cdv ct oc : Value) (an od : Option Addr) (osl : Array (Option Value)) (N : List Str),
    G.K.lookup (G.fa f) = some ⟨oc, od, .func (PySem.W.fnOf name qual params body scope dV kV doc pm an cdv ct), osl⟩ ∧ G.fd f = PySem.W.fnOf name qual params body scope dV kV doc pm an cdv ct ∧ PySem.W.codeIn G.K cdv qual = true ∧ FnScope N (G.ps f) scope ∧
      N.length = k.ns ∧ (G.ps f).length = k.np ∧ (∃ lc, (∀ a b c d e, lc a b c d e = true → G.lam a b c d e) ∧ cSs P G.nm G.gn k.body ⟨N, scope, scope, (G.tab f).isSome, lc⟩ body = true) ∧
      ∀ c tab, G.tab f = some (c, tab) → cdv = .ref c ∧ (tab, qual ++ ".<locals>." ++ "<lambda>") ∈ G.T ∧ ∀ p ∈ G.T, p.1 = tab → p.2 = qual ++ ".<locals>." ++ "<lambda>"
theorem fnEnd_post {mode : Nat} {wv : Tn.W} {m1 : Mu} (r0 : MRel G ι H m) (h : Post G ι H (fnEnd mode m.length wv m1) Q E) : ∀ v ι' H', Ex ι H ι' H' → MRel G ι' H' m1 → DenW G ι' H' v wv → Q v H' := by
  intro v ι' H' ex r d
  have tk : ι'.take m.length = ι := by rw [← r0.len]; exact ex.take
  unfold fnEnd at h
  split at h
  · split at h
    · exact h v ι' H' ex r d
    · exact h.elim
  · split at h
    · exact h v ι' H' ex r d
    · exact h.elim
  · cases e1 : froze m.length m1 wv with
    | none => rw [e1] at h; exact h.elim
    | some u =>
      rw [e1] at h
      cases e2 : cutMu m.length m1 with
      | none => rw [e2] at h; exact h.elim
      | some m2 =>
        rw [e2] at h
        have rc := r.cut e2
        rw [tk] at rc
        refine h v ι H' ex.down rc ?_
        have less : wv.under m.length = true → DenW G ι H' v wv := fun hu => by
          have := d.less hu
          rw [tk] at this
          exact this
        unfold froze at e1
        split at e1
        · rename_i i
          cases hi : decide (i < m.length) with
          | true =>
            rw [hi] at e1
            cases e1
            exact less (by simpa [W.under] using of_decide_eq_true hi)
          | false =>
            rw [hi] at e1
            simp only [cond_false] at e1
            obtain ⟨a, ea, rfl⟩ := d
            cases em : m1[i]? with
            | none => rw [em] at e1; cases e1
            | some o =>
              rw [em] at e1
              cases o with
              | lst l =>
                simp only at e1
                cases ed : datOf l with
                | none => rw [ed] at e1; cases e1
                | some ds =>
                  rw [ed] at e1
                  cases e1
                  obtain ⟨vs, e3, d3⟩ := r.ok i a _ ea em
                  have na : a ∉ ι := fun z => by
                    rw [← tk] at z
                    obtain ⟨j, hj, ej⟩ := List.mem_iff_getElem.mp z
                    rw [List.length_take] at hj
                    have hj2 : j < m.length := by omega
                    have e4 : ι'[j]? = some a := by
                      rw [List.getElem_take] at ej
                      rw [List.getElem?_eq_getElem (by omega), ej]
                    obtain ⟨hi1, hi2⟩ := List.getElem?_eq_some_iff.mp ea
                    obtain ⟨hj1, hj3⟩ := List.getElem?_eq_some_iff.mp e4
                    have e5 := nd_ix ι' r.nd i j a ea e4
                    have : ¬ i < m.length := of_decide_eq_false hi
                    omega
                  exact Den.lst na e3 (DenL.less (fun b q => ex.pre.subset q) (d3.dat ed))
              | _ => cases e1
        · rename_i hne
          cases hu : wv.under m.length with
          | false => rw [hu] at e1; cases e1
          | true =>
            rw [hu] at e1
            cases e1
            exact less hu
  · exact h v ι' H' ex r d
theorem start_rel {vs : List V} {ws : List Tn.W} {N : List Str} {ns : Nat} (d : DenWs G ι H vs ws) (hn : N.length = ns) : ERel G ι H (L2.start N vs) (startE ns ws) := by
  have hl := d.length
  refine ⟨by simp [L2.start, startE, hl, hn], fun i w' h => ?_⟩
  unfold startE at h
  by_cases hi : i < ws.length
  · rw [List.getElem?_append_left (by simpa using hi), List.getElem?_map] at h
    cases e : ws[i]? with
    | none => rw [e] at h; cases h
    | some u =>
      rw [e] at h
      cases h
      obtain ⟨v, ev, dv⟩ := d.get e
      refine ⟨v, ?_, dv⟩
      unfold L2.start
      rw [List.getElem?_append_left (by simp; omega), List.getElem?_map, ev]
      rfl
  · rw [List.getElem?_append_right (by simpa using hi)] at h
    obtain ⟨_, z⟩ := List.getElem?_eq_some_iff.mp h
    simp at z
/-- the written defs and lambdas -/
structure AllF (G : Gl) (P : Pg) : Prop where
  fn : ∀ f k, P.fns[f]? = some k → G.isL f = false → FunF G P f k
  ln : ∀ f k, P.fns[f]? = some k → (G.ps f).length = k.np
  lam : ∀ k N params body scope, G.lam k N params body scope → ∃ e, P.fns[k]? = some ⟨N.length, N.length, 4, .cons (.ret e) .nil⟩ ∧ N.Nodup ∧ (scope.kind = .function ∧ scope.isCoroutine = false ∧ scope.isGenerator = false) ∧ (∀ y ∈ scope.names, y.2 ≠ .local ∧ y.2 ≠ .cell) ∧
    (∀ y, scope.names.lookup y = some .free → y ∈ N) ∧ (∀ (q : Str) (cl : List (Str × Addr)) (pm cv ctv : Value), bindArgs (PySem.W.kla_fn "<lambda>" q params body scope cl pm cv ctv) ⟨[], []⟩ = pure []) ∧ cE P G.nm G.gn e ⟨N, scope, scope, false, fun _ _ _ _ _ => false⟩ body = true
theorem runFn_len (tb : AllF G P) {C : Tn.Call} {f : Nat} {ws : List Tn.W} (h : runFn P C f ws m ≠ .stuck) : ws.length = (G.ps f).length := by
  unfold runFn at h
  cases e : P.fns[f]? with
  | none => rw [e] at h; exact absurd rfl h
  | some k =>
    rw [e] at h
    simp only at h
    by_cases hl : ws.length = k.np
    · rw [hl, tb.ln f k e]
    · rw [if_neg hl] at h
      exact absurd rfl h
theorem lev_lenH (tb : AllF G P) : ∀ (n f : Nat) (ws : List Tn.W) (m : Mu), (lev P n).hi f ws m ≠ .stuck → ws.length = (G.ps f).length
  | 0, _, _, _, h => absurd rfl h
  | n + 1, _, _, _, h => runFn_len tb h
theorem lev_lenL (tb : AllF G P) : ∀ (n f : Nat) (ws : List Tn.W) (m : Mu), (lev P n).lo f ws m ≠ .stuck → ws.length = (G.ps f).length
  | 0, _, _, _, h => absurd rfl h
  | n + 1, f, ws, m, h => lev_lenH tb n f ws m h
/-- the context of a lambda's body -/
def lcx (Pr : Program) (w : World) (K : PySem.W.Frag) (mg : Str → Option Value) (base : Heap) (N : List Str) (q : Str) (scope : Scope) (cl : List (Str × Addr)) (f c : Addr) (A : Around) (outer : List PySem.Env) (s : Shared) (H : Hp) (E : XK) : Cx where
  prog := Pr
  w := w
  K := K
  mg := mg
  base := base
  A := A.deeper (PySem.W.envX q scope s.heap.objs.size f (.ref c) cl)
  N := N
  s_0 := s
  H_0 := H
  env := PySem.W.envX q scope s.heap.objs.size f (.ref c) cl
  outer := outer
  stack := PySem.W.envX q scope s.heap.objs.size f (.ref c) cl :: outer
  ex := []
  fn := fun _ => false
  calm := true
  pn := []
  xe := fun e s' => wpAny (model Pr w) (A.deeper (PySem.W.envX q scope s.heap.objs.size f (.ref c) cl)) (leaving (PySem.W.envX q scope s.heap.objs.size f (.ref c) cl) e) (fun _ s'' => L2.CX Pr w outer H s E e s'') (fun e' s'' => L2.CX Pr w outer H s E e' s'') s'
theorem lcx_start {N : List Str} {q : Str} {scope : Scope} {cl : List (Str × Addr)} {f c : Addr} {A : Around} {outer : List PySem.Env} {s : Shared} {vs : List V} {h1 : Heap} {tk : Nat} {K : PySem.W.Frag} (e0 : Env0 Pr w K mg base A outer s H) (hd : A.handled = none) (cps : Caps ι H N cl vs) (hl : vs.length = N.length) (hk : scope.kind = .function) (hown : ∀ y ∈ scope.names, y.2 ≠ .local ∧ y.2 ≠ .cell)
    (hfr : ∀ y, scope.names.lookup y = some .free → y ∈ N) (hns : h1.Ns s.heap.objs.size fun y => ([] : List (Str × Value)).reverse.lookup y) (kp : ∀ b o, s.heap.get? b = some o → h1.get? b = some o) :
    Inv (lcx Pr w K mg base N q scope cl f c A outer s (hideR (cl.map (·.2)) H) E) [] (vs.map some) (hideR (cl.map (·.2)) H) { s with heap := h1, toks := tk } := by
  have cel : CelsOn (cl.map (·.2)) H := fun b hb => by
    obtain ⟨p, hp, rfl⟩ := List.mem_map.mp hb
    obtain ⟨_, oc, v, z, _⟩ := cps.all p hp
    exact ⟨oc, z⟩
  have obj : ∀ {x : Str} {cc : Addr}, cl.lookup x = some cc → cc ∈ cl.map (·.2) ∧ ∃ oc v, h1.get? cc = some oc ∧ oc.data = .cell v := fun {x cc} z => by
    have hm := PySem.mem_of_lookup z
    obtain ⟨_, oc, v, z1, z2⟩ := cps.all _ hm
    exact ⟨List.mem_map.mpr ⟨_, hm, rfl⟩, oc, v, kp _ _ (e0.hok _ _ z1).1, z2⟩
  have look : ∀ {y : Str}, scope.names.lookup y = some .free → ∃ cc oc u v i, cl.lookup y = some cc ∧ h1.get? cc = some oc ∧ oc.data = .cell (some u) ∧ N[i]? = some y ∧ vs[i]? = some v ∧ RelV v u := fun {y} z => by
    obtain ⟨i, hi, e⟩ := List.mem_iff_getElem.mp (hfr y z)
    have e1 : N[i]? = some y := by rw [List.getElem?_eq_getElem hi, e]
    have hi2 : i < vs.length := by rw [hl]; exact hi
    obtain ⟨cc, oc, u, q1, q2, q3, q4⟩ := cps.at_ i y _ e1 (List.getElem?_eq_getElem hi2)
    exact ⟨cc, oc, u, _, i, q1, kp _ _ (e0.hok _ _ q2).1, q3, e1, List.getElem?_eq_getElem hi2, q4⟩
  have ng : ∀ {b : Addr}, H b = none → hideR (cl.map (·.2)) H b = none := fun {b} z => by rw [hide_out (cel.none z)]; exact z
  refine ⟨⟨e0.mod, hk, rfl, rfl, Nat.le_refl _, cps.inj, fun y hy => ?_, fun y cc z _ => (by cases z), fun _ => hd, Around.frames_deeper e0.frames, .inr ⟨rfl, rfl⟩, fun b z => (by cases z), fun b o z => ⟨(e0.bs b o z).1, ng (e0.bs b o z).2⟩, e0.bsz, fun b o _ z => (by cases z), fun b z => (by cases z), e0.funs, fun b hb => ng (e0.frf b hb)⟩,
    rfl, e0.bare, Un.kept kp, ⟨_, hns, fun i y v e1 e2 e3 => ?_⟩, fun y cc z => ?_, ng (e0.hok.fresh (Nat.le_refl _)), fun y cc z => hide_in (obj z).1, fun q hq => (by cases hq), (hok_hid e0.hok cel).kept kp, by rw [List.length_map]; exact hl⟩
  · rcases hy with hy | hy
    · exact absurd rfl (hown _ (PySem.mem_of_lookup hy)).2
    · obtain ⟨cc, _, _, _, _, z, _⟩ := look hy
      exact ⟨cc, z⟩
  · rcases e3 with k | k | k
    · exact absurd rfl (hown _ (PySem.mem_of_lookup k)).1
    · exact absurd rfl (hown _ (PySem.mem_of_lookup k)).2
    · have e1 : N[i]? = some y := e1
      have e4 : vs[i]? = some v := by
        rw [List.getElem?_map] at e2
        cases q : vs[i]? with
        | none => rw [q] at e2; cases e2
        | some v' => rw [q] at e2; cases e2; rfl
      obtain ⟨cc, oc, u, q1, q2, q3, q4⟩ := cps.at_ i y v e1 e4
      exact ⟨u, q4, .inr ⟨.inr k, cc, q1, oc, kp _ _ (e0.hok _ _ q2).1, q3⟩⟩
  · obtain ⟨_, oc, v, z1, z2⟩ := obj z
    exact ⟨v, oc, z1, z2⟩
theorem lams_ok {n : Nat} (gp : GoodP G P mg) (tb : AllF G P) (pf : (Pr.main.file : Str) = G.file ∧ (Pr.main.scope.names.lookup ("super" : Str)).isSome = false) (ih : FnsOk G Pr w mg base n (lev P n).hi) (ihM : LamsOk G Pr w mg base n (lev P n).hi)
    (lo : (∃ j, j + 1 ≤ n ∧ FnsOk G Pr w mg base j (lev P n).lo) ∨ ∀ f ws m, (lev P n).lo f ws m = .stuck) (rm : (lev P n).rm = true → 1 ≤ n) : LamsOk G Pr w mg base (n + 1) (lev P (n + 1)).hi := by
  intro A outer s H ι m k l f Q E hr hg e0 r dl nl1 nl2 post
  simp only [DenW] at dl
  obtain ⟨f', c, q, N, params, body, scope, cl, vs, pm, ctv, ef, nf, ncι, hf, hc, hlam, hNl, cps, dv⟩ := dl
  cases ef
  obtain ⟨e, ek, nd, ⟨sk, sco, sge⟩, hown, hfr, hbind, chk⟩ := tb.lam k N params body scope hlam
  have of1 := (e0.hok f _ hf).1
  obtain ⟨⟨oc, vc, t, hoc, hdc, hvc⟩, _, _⟩ := e0.hok c _ hc
  have cel : CelsOn (cl.map (·.2)) H := fun b hb => by
    obtain ⟨p, hp, rfl⟩ := List.mem_map.mp hb
    obtain ⟨_, oc, v, z, _⟩ := cps.all p hp
    exact ⟨oc, z⟩
  have gO : ∀ b ∈ cl.map (·.2), ∀ oc, H b = some (CelO oc b) → s.heap.get? b = some oc := fun b hb oc z => (e0.hok b _ z).1
  have nfr : ∀ b ∈ cl.map (·.2), b ∉ frs outer := fun b hb z => by
    obtain ⟨oc, q⟩ := cel b hb
    rw [e0.frf b z] at q
    cases q
  have lim : s.heap.NoLimit := e0.mod.nolimit.keeps fun b o z => (e0.bs b o z).1
  have sub : Subs H (hideR (cl.map (·.2)) H) := fun a o z no => by
    by_cases ha : a ∈ cl.map (·.2)
    · obtain ⟨oc, q⟩ := cel a ha
      rw [q] at z
      exact absurd (Option.some.inj z).symm (no _ _)
    · rw [hide_out ha]; exact z
  have hvl : vs.length = N.length := by rw [dv.length, hNl]
  -- the way back
  have exs : ∀ {ι' : List Addr} {H4 : Hp} {m' : Mu}, (∀ b ∈ cl.map (·.2), H4 b = none) → MRel G ι' H4 m' → Ex ι (hideR (cl.map (·.2)) H) ι' H4 → Ex ι H ι' (showR (cl.map (·.2)) H H4) := fun {ι' H4 m'} n4 r4 x => by
    refine ⟨x.pre, fun {a o u} z => ?_, fun a o ha z nt => ?_⟩
    · by_cases hb : a ∈ cl.map (·.2)
      · rw [show_in hb]; exact z
      · rw [show_out hb]; exact x.frz (by rw [hide_out hb]; exact z)
    · by_cases hb : a ∈ cl.map (·.2)
      · refine ⟨fun q => ?_, by rw [show_in hb]; exact z⟩
        obtain ⟨o', q1, _⟩ := r4.kind q
        rw [n4 a hb] at q1
        cases q1
      · rw [show_out hb]; exact x.keep a o ha (by rw [hide_out hb]; exact z) nt
  have incl : ∀ {H4 : Hp}, (∀ b ∈ cl.map (·.2), H4 b = none) → ∀ b o, H4 b = some o → showR (cl.map (·.2)) H H4 b = some o := fun {H4} n4 b o z => by
    rw [show_out (fun hb => by rw [n4 b hb] at z; cases z)]; exact z
  refine codeAny_mono (R := CR (L2.CX Pr w) outer Pr w (hideR (cl.map (·.2)) H) s (fun v H4 => (∀ b ∈ cl.map (·.2), H4 b = none) → Q v (showR (cl.map (·.2)) H H4)) (fun cls d H4 => (∀ b ∈ cl.map (·.2), H4 b = none) → E cls d (showR (cl.map (·.2)) H H4))) ?_ fun r0 s' hq => cr_shown cel gO nfr (fun v H4 n4 z => z n4) (fun cls d H4 n4 z => z n4) hq
  refine PySem.W.kla_callFunE hr.depth of1 rfl sco sge rfl ⟨c, oc, vc, t, rfl, hoc, hdc, hvc⟩ ?_
  rw [hbind]
  refine wpAny_pure (wpAny_newFunctionEnv (fun y hy => (hown y hy).2) (fun y hy => absurd hy (by simp)) (fun h1 hns hsb => ⟨lim.fresh _ hsb, ?_⟩) sk)
  have kp : ∀ b o, s.heap.get? b = some o → h1.get? b = some o := fun b o z => hsb.extBut b o (Nat.ne_of_lt (Heap.lt_size z)) (Heap.get?_push_of_some _ z)
  have J := lcx_start (E := fun cls d H4 => (∀ b ∈ cl.map (·.2), H4 b = none) → E cls d (showR (cl.map (·.2)) H H4)) (q := q) (f := f) (c := c) (tk := s.toks + ([] : List (Str × Value)).length) e0 hr.hd cps hvl sk hown hfr hns kp
  show codeAny _ _ (.expr body (PySem.W.envX q scope s.heap.objs.size f (.ref c) cl)) _ _
  have tk := takes_of (X := lcx Pr w G.K mg base N q scope cl f c A outer s (hideR (cl.map (·.2)) H) (fun cls d H4 => (∀ b ∈ cl.map (·.2), H4 b = none) → E cls d (showR (cl.map (·.2)) H H4)))
    (E := fun cls d H4 => (∀ b ∈ cl.map (·.2), H4 b = none) → E cls d (showR (cl.map (·.2)) H H4)) (E₁ := fun e' s'' => L2.CX Pr w outer (hideR (cl.map (·.2)) H) s (fun cls d H4 => (∀ b ∈ cl.map (·.2), H4 b = none) → E cls d (showR (cl.map (·.2)) H H4)) e' s'') rfl rfl rfl rfl
  have cx : Cok G P (lev P n) (lcx Pr w G.K mg base N q scope cl f c A outer s (hideR (cl.map (·.2)) H) (fun cls d H4 => (∀ b ∈ cl.map (·.2), H4 b = none) → E cls d (showR (cl.map (·.2)) H H4))) (fun cls d _ H4 => (∀ b ∈ cl.map (·.2), H4 b = none) → E cls d (showR (cl.map (·.2)) H H4)) n :=
    ⟨rfl, rfl, hr.deeper _, hg, tk, nd, gp, pf, ih, lev_lenH tb n, ihM, rm, lev_lenL tb n, lo⟩
  have cc : CtxK G ⟨N, scope, scope, false, fun _ _ _ _ _ => false⟩ (lcx Pr w G.K mg base N q scope cl f c A outer s (hideR (cl.map (·.2)) H) (fun cls d H4 => (∀ b ∈ cl.map (·.2), H4 b = none) → E cls d (showR (cl.map (·.2)) H H4))) := by
    refine ⟨rfl, rfl, sk, fun x hx => ?_, fun z => (by cases z), fun _ _ _ _ _ z => (by cases z)⟩
    have nol : ∀ kk, scope.names.lookup x = some kk → kk ≠ .local ∧ kk ≠ .cell := fun kk z => hown _ (PySem.mem_of_lookup z)
    unfold locB at hx
    cases q : scope.names.lookup x with
    | none => rw [q] at hx; cases hx
    | some u =>
      rw [q] at hx
      cases u with
      | «local» => exact absurd rfl (nol _ q).1
      | cell => exact absurd rfl (nol _ q).2
      | _ => cases hx
  refine PySem.W.kla_codeExpr (wpAny_mono ((sE e _ _ _ _ n cx cc chk).1.run [] _ _ _ (fun v H4 => (∀ b ∈ cl.map (·.2), H4 b = none) → Q v (showR (cl.map (·.2)) H H4)) J ⟨ι, l.map some, m, MRel.subs sub r nl2, ?_, ?_⟩) (fun v s' hq => ?_) fun e s' hq => hq)
  · refine ⟨by simp [dv.length], fun i w' z => ?_⟩
    rw [List.getElem?_map] at z
    cases q : l[i]? with
    | none => rw [q] at z; cases z
    | some u =>
      rw [q] at z
      cases z
      obtain ⟨v, ev, dd⟩ := (DenWs.subs sub dv nl1).get q
      exact ⟨v, by rw [List.getElem?_map, ev]; rfl, dd⟩
  · have post : Post G ι H (runFn P (lev P n) k l m) Q E := post
    unfold runFn at post
    rw [ek] at post
    simp only at post
    rw [if_pos hNl.symm] at post
    have es : startE N.length l = l.map some := by unfold startE; rw [hNl]; simp
    rw [es] at post
    simp only [execs, exec] at post
    show Post G ι _ (ev P (lev P n) e (l.map some) m) _ _
    cases ee : ev P (lev P n) e (l.map some) m with
    | stuck => rw [ee] at post; exact post.elim
    | ok wv m1 =>
      rw [ee] at post
      simp only [Out.ofR] at post
      intro v ι' H4 x4 r4 d4 n4
      exact fnEnd_post r post v ι' _ (exs n4 r4 x4) (r4.more (incl n4)) (d4.ex (Ex.more (incl n4)))
    | exc xc xv m1 =>
      rw [ee] at post
      simp only [Out.ofR] at post
      intro ι' H4 cls dd x4 r4 d4 n4
      cases ec : cutMu m.length m1 with
      | none => rw [ec] at post; exact post.elim
      | some m2 =>
        rw [ec] at post
        have r5 := r4.more (incl n4)
        have x5 := exs n4 r4 x4
        have tk2 : ι'.take m.length = ι := by rw [← r.len]; exact x5.take
        have rc := r5.cut ec
        rw [tk2] at rc
        obtain ⟨z0, d0, v0, q1, q2, q3, q4⟩ := d4
        exact post ι _ cls dd x5.down rc ⟨z0, d0, v0, q1, fun z => q2 (x5.pre.subset z), incl n4 _ _ q3, Den.less (fun a z => x5.pre.subset z) (q4.ex (Ex.more (incl n4)))⟩
  · obtain ⟨w', H', J', rv, q⟩ := hq
    exact ⟨w', H', J'.os, J'.bare, J'.base, J'.hok, rv, q⟩
theorem fns_ok (gp : GoodP G P mg) (tb : AllF G P) (pf : (Pr.main.file : Str) = G.file ∧ (Pr.main.scope.names.lookup ("super" : Str)).isSome = false) (tabs : ∀ f c tab, G.tab f = some (c, tab) → LamX.TabB base mg c tab) : ∀ n, FnsOk G Pr w mg base n (lev P n).hi ∧ LamsOk G Pr w mg base n (lev P n).hi
  | 0 => ⟨fun f => ⟨fun vs H Q E ⟨_, h, _⟩ => h, fun A outer s H args us vs Q E _ _ _ _ _ ⟨_, _, _, _, _, _, _, h⟩ => h.elim⟩, fun _ _ _ _ _ _ _ _ _ _ _ _ _ _ _ _ _ _ h => h.elim⟩
  | n + 1 => by
    obtain ⟨ih, ihM⟩ := fns_ok gp tb pf tabs n
    have rm : (lev P n).rm = true → 1 ≤ n := fun z => by
      cases n with
      | zero => cases z
      | succ j => omega
    refine ⟨?_, lams_ok gp tb pf ih ihM (by
      cases n with
      | zero => exact .inr fun _ _ _ => rfl
      | succ j => exact .inl ⟨j, Nat.le_refl _, (fns_ok gp tb pf tabs j).1⟩) rm⟩
    intro f
    have lo : (∃ j, j + 1 ≤ n ∧ FnsOk G Pr w mg base j (lev P n).lo) ∨ ∀ f ws m, (lev P n).lo f ws m = .stuck := by
      cases n with
      | zero => exact .inr fun _ _ _ => rfl
      | succ j => exact .inl ⟨j, Nat.le_refl _, (fns_ok gp tb pf tabs j).1⟩
    cases e : P.fns[f]? with
    | none =>
      refine ⟨fun vs H Q E ⟨_, h, _⟩ => h, fun A outer s H args us vs Q E _ _ _ _ _ ⟨_, _, ι, ws, m, _, _, h⟩ => ?_⟩
      have z : (lev P (n + 1)).hi f ws m = .stuck := by
        show runFn P (lev P n) f ws m = .stuck
        unfold runFn
        rw [e]
      rw [z] at h
      exact h.elim
    | some k =>
      cases hil : G.isL f with
      | true => exact ⟨fun vs H Q E ⟨h, _⟩ => (by rw [hil] at h; cases h), fun A outer s H args us vs Q E _ _ _ _ _ ⟨h, _⟩ => (by rw [hil] at h; cases h)⟩
      | false =>
      obtain ⟨name, qual, params, body, scope, dV, kV, doc, pm, cdv, ct, oc, an, od, osl, N, lk, efd, hcd, S, hN, hp, ⟨lc, hlc, chk⟩, htab⟩ := (tb.fn f k e hil).ex
      rw [efd]
      refine fnG_of lk hcd S (fun vs H Q E ⟨_, h, _⟩ => h) fun A outer s H vs Q E hr hg ⟨_, hl, ι, ws, m, r, d, h⟩ => ?_
      have tk := takes_of (X := cxOf (L2.CX Pr w) Pr w G.K mg base N qual scope (G.fa f) cdv A outer s H E) (E := E) (E₁ := fun e' s'' => L2.CX Pr w outer H s E e' s'') rfl rfl rfl rfl
      have cx : Cok G P (lev P n) (cxOf (L2.CX Pr w) Pr w G.K mg base N qual scope (G.fa f) cdv A outer s H E) (fun cls d _ H => E cls d H) n :=
        ⟨rfl, rfl, hr, hg, tk, S.nd, gp, pf, ih, lev_lenH tb n, ihM, rm, lev_lenL tb n, lo⟩
      have ow : Own0 (cxOf (L2.CX Pr w) Pr w G.K mg base N qual scope (G.fa f) cdv A outer s H E) := ⟨rfl, rfl, rfl, fun _ => rfl⟩
      have cc : CtxK G ⟨N, scope, scope, (G.tab f).isSome, lc⟩ (cxOf (L2.CX Pr w) Pr w G.K mg base N qual scope (G.fa f) cdv A outer s H E) := by
        refine ⟨rfl, rfl, S.kind, fun x hx => ⟨?_, .inl rfl⟩, fun z => ⟨ow, ?_⟩, hlc⟩
        rotate_left
        · cases et : G.tab f with
          | none => rw [et] at z; cases z
          | some q =>
            obtain ⟨c, tab⟩ := q
            obtain ⟨t1, t2, t3⟩ := htab c tab et
            exact ⟨c, tab, tabs f c tab et, t1, t2, t3⟩
        show L2.Loc scope x
        unfold locB at hx
        unfold L2.Loc
        cases q : scope.names.lookup x with
        | none => rw [q] at hx; cases hx
        | some u => rw [q] at hx; cases u <;> simp_all
      refine ⟨_, sSs k.body _ body _ _ n cx cc (passes_of rfl) ow chk, ι, startE k.ns ws, m, r, start_rel d hN, ?_⟩
      have h : Post G ι H (runFn P (lev P n) f ws m) Q E := h
      unfold runFn at h
      rw [e] at h
      simp only at h
      have hw : ws.length = k.np := by rw [← d.length, hl, hp]
      rw [if_pos hw] at h
      cases eb : execs P (lev P n) k.body (startE k.ns ws) m with
      | nx e1 m1 =>
        rw [eb] at h
        exact fun σ' ι' H' ex r1 _ => fnEnd_post r h .non ι' H' ex r1 .non
      | rt u m1 =>
        rw [eb] at h
        exact fun v ι' H' ex r1 dv => fnEnd_post r h v ι' H' ex r1 dv
      | bk _ _ => rw [eb] at h; exact h.elim
      | ct _ _ => rw [eb] at h; exact h.elim
      | st => rw [eb] at h; exact h.elim
      | ex c x e1 m1 =>
        rw [eb] at h
        simp only at h
        cases ec : cutMu m.length m1 with
        | none => rw [ec] at h; exact h.elim
        | some m2 =>
          rw [ec] at h
          intro σ' ι' H' cls dd ex1 r1 _ dx
          have tk2 : ι'.take m.length = ι := by rw [← r.len]; exact ex1.take
          have rc := r1.cut ec
          rw [tk2] at rc
          obtain ⟨e0, d0, v0, q1, q2, q3, q4⟩ := dx
          exact h ι H' cls dd ex1.down rc ⟨e0, d0, v0, q1, fun z => q2 (ex1.pre.subset z), q3, Den.less (fun a z => ex1.pre.subset z) q4⟩
end
end Tn

set_option Elab.async false
set_option linter.all false
set_option maxRecDepth 100000
set_option maxHeartbeats 1000000
namespace Tn
open PySem PySem.Spec PyProof.Rows L2

/-! ### binding, computed -/
section
variable {α β : Type}
def pbKw (ok : Str → Bool) : List (Str × α) → List (Str × α) → Option (List (Str × α))
  | slots, [] => some slots
  | slots, (k, v) :: r => bif ok k && (slots.lookup k).isNone then pbKw ok (slots ++ [(k, v)]) r else none
def pbDf : List (Str × α) → List (Str × α) → List (Str × α)
  | slots, [] => slots
  | slots, (k, v) :: r => bif (slots.lookup k).isNone then pbDf (slots ++ [(k, v)]) r else pbDf slots r
def pbKd (kwd : Str → Option α) : List (Str × α) → List Str → Option (List (Str × α))
  | slots, [] => some slots
  | slots, k :: r => bif (slots.lookup k).isNone then (match kwd k with
    | some v => pbKd kwd (slots ++ [(k, v)]) r
    | none => none) else pbKd kwd slots r
def pbEnd (normal kwonly : List Str) (s : List (Str × α)) : List (Str × α) := (normal ++ kwonly).filterMap fun n => (s.lookup n).map (n, ·)
def pbind (normal kwonly : List Str) (pos : List α) (kw : List (Str × α)) (dfl : List α) (kwd : Str → Option α) : Option (List (Str × α)) :=
  bif decide (pos.length ≤ normal.length) then (pbKw (fun k => normal.contains k || kwonly.contains k) (normal.zip pos) kw).bind fun s1 =>
    bif ((normal.take (normal.length - (dfl.drop (dfl.length - normal.length)).length)).filter fun n => (s1.lookup n).isNone).isEmpty then
      (pbKd kwd (pbDf s1 ((normal.drop (normal.length - (dfl.drop (dfl.length - normal.length)).length)).zip (dfl.drop (dfl.length - normal.length)))) kwonly).map fun s3 => pbEnd normal kwonly s3
    else none
  else none
end
def DfK (K : PySem.W.Frag) (dV : Value) (dfl : List Value) : Prop := (dV = .none ∧ dfl = []) ∨ ∃ T o n, dV = .ref T ∧ K.lookup T = some o ∧ o.data = .seq dfl.toArray n
def KwK (K : PySem.W.Frag) (kV : Value) (kwd : Str → Option Value) : Prop := ∀ x u, kwd x = some u → ∃ D, kV = .ref D ∧ PySem.W.nsIn K D x = some (some u)
theorem loop1 {ok : Str → Bool} (f : Str × Value → List (Str × Value) × List (Str × Value) → Sem (ForInStep (List (Str × Value) × List (Str × Value))))
    (hf : ∀ k v s e, ok k = true → (s.lookup k).isSome = false → f (k, v) (s, e) = pure (.yield (s ++ [(k, v)], e))) : ∀ kw s s', pbKw ok s kw = some s' → forIn kw (s, []) f = (pure (s', []) : Sem _)
  | [], s, s', h => by rw [List.forIn_nil]; cases h; rfl
  | (k, v) :: r, s, s', h => by
    unfold pbKw at h
    cases e1 : (ok k && (s.lookup k).isNone) with
    | false => rw [e1] at h; cases h
    | true =>
      rw [e1] at h
      obtain ⟨h1, h2⟩ := ba e1
      rw [List.forIn_cons, hf k v s [] h1 (by simpa using h2)]
      exact loop1 f hf r _ s' h
theorem loop2 (f : Str × Value → List (Str × Value) → Sem (ForInStep (List (Str × Value)))) (hf : ∀ k v s, f (k, v) s = if (s.lookup k).isNone = true then pure (.yield (s ++ [(k, v)])) else pure (.yield s)) : ∀ l s, forIn l s f = (pure (pbDf s l) : Sem _)
  | [], s => by rw [List.forIn_nil]; rfl
  | (k, v) :: r, s => by
    rw [List.forIn_cons, hf]
    unfold pbDf
    cases e1 : (s.lookup k).isNone with
    | true => exact loop2 f hf r _
    | false => exact loop2 f hf r _
theorem loop3 {M : Model} {h : Heap} {kwd : Str → Option Value} (f : Str → List (Str × Value) × List Str → Sem (ForInStep (List (Str × Value) × List Str)))
    (hf : ∀ k s e, (s.lookup k).isNone = false → f k (s, e) = pure (.yield (s, e))) (hg : ∀ k s e v, (s.lookup k).isNone = true → kwd k = some v → PySem.W.Looks M h (f k (s, e)) (.yield (s ++ [(k, v)], e))) :
    ∀ l s s', pbKd kwd s l = some s' → PySem.W.Looks M h (forIn l (s, []) f) (s', [])
  | [], s, s', h => by rw [List.forIn_nil]; cases h; exact .of_pure rfl
  | k :: r, s, s', h => by
    unfold pbKd at h
    rw [List.forIn_cons]
    cases e1 : (s.lookup k).isNone with
    | false =>
      rw [e1] at h
      rw [hf k s [] e1]
      exact loop3 f hf hg r s s' h
    | true =>
      rw [e1] at h
      simp only [cond_true] at h
      cases e2 : kwd k with
      | none => rw [e2] at h; cases h
      | some v =>
        rw [e2] at h
        exact (hg k s [] v e1 e2).andThen (loop3 f hf hg r _ s' h)
theorem bind_looks {K : PySem.W.Frag} {M : Model} {h : Heap} (X : K.In h) {fd : FuncData} {args : Args} (h1 : fd.params.posonlyargs = []) (h2 : fd.params.vararg = none) (h3 : fd.params.kwarg = none) {dfl : List Value} {kwd : Str → Option Value} (hd : DfK K fd.defaults dfl) (hk : KwK K fd.kwdefaults kwd)
    {binds : List (Str × Value)} (e : pbind (fd.params.args.map (·.arg)) (fd.params.kwonlyargs.map (·.arg)) args.pos args.kw dfl kwd = some binds) : PySem.W.Looks M h (bindArgs fd args) binds := by
  unfold pbind at e
  cases e0 : decide (args.pos.length ≤ (fd.params.args.map (·.arg)).length) with
  | false => rw [e0] at e; cases e
  | true =>
    rw [e0] at e
    simp only [cond_true] at e
    have e0 := of_decide_eq_true e0
    cases e1 : pbKw (fun k => (fd.params.args.map (·.arg)).contains k || (fd.params.kwonlyargs.map (·.arg)).contains k) ((fd.params.args.map (·.arg)).zip args.pos) args.kw with
    | none => rw [e1] at e; cases e
    | some s1 =>
      rw [e1] at e
      simp only [Option.bind_some] at e
      unfold bindArgs
      simp only [h1, h2, h3, List.map_nil, List.nil_append, Option.isSome_none, Option.isNone_none, Bool.and_true]
      refine PySem.W.Looks.andThen (a := (s1, [])) (.of_pure (loop1 _ (fun k v s e hk hs => ?_) _ _ _ e1)) ?_
      · simp only [hk, hs, if_true]
        rfl
      · generalize hnorm : fd.params.args.map (fun x => x.arg) = normal at *
        generalize hkwo : fd.params.kwonlyargs.map (fun x => x.arg) = kwonly at *
        have g0 : decide (args.pos.length > normal.length) = false := decide_eq_false (by omega)
        cases e2 : ((normal.take (normal.length - (dfl.drop (dfl.length - normal.length)).length)).filter fun n => (s1.lookup n).isNone).isEmpty with
        | false => rw [e2] at e; cases e
        | true =>
          rw [e2] at e
          simp only [cond_true] at e
          cases e3 : pbKd kwd (pbDf s1 ((normal.drop (normal.length - (dfl.drop (dfl.length - normal.length)).length)).zip (dfl.drop (dfl.length - normal.length)))) kwonly with
          | none => rw [e3] at e; cases e
          | some s3 =>
            rw [e3] at e
            cases e
            rcases hd with ⟨ed, edl⟩ | ⟨T, o, nn, ed, lT, oT⟩
            · rw [ed]
              refine PySem.W.Looks.andThen (a := none) (.of_pure rfl) ?_
              have ez : ((none : Option (Array Value)).getD #[]).toList = dfl := by rw [edl]; rfl
              simp only [ez, g0, e2, Bool.not_true, Bool.false_eq_true, if_false]
              rw [loop2 _ (fun k v s => rfl)]
              refine PySem.W.Looks.andThen (a := (s3, [])) (loop3 (kwd := kwd) _ (fun k s e hn => ?_) (fun k s e v hn hv => ?_) _ _ _ e3) (.of_pure rfl)
              · simp only [hn, Bool.false_eq_true, if_false]
              · obtain ⟨D, eD, hD⟩ := hk k v hv
                simp only [hn, if_true, eD]
                exact (PySem.W.looks_nsIn X hD).andThen (.of_pure rfl)
            · rw [ed]
              refine looks_items X lT oT ?_
              have ez : ((some dfl.toArray : Option (Array Value)).getD #[]).toList = dfl := by simp
              simp only [ez, g0, e2, Bool.not_true, Bool.false_eq_true, if_false]
              rw [loop2 _ (fun k v s => rfl)]
              refine PySem.W.Looks.andThen (a := (s3, [])) (loop3 (kwd := kwd) _ (fun k s e hn => ?_) (fun k s e v hn hv => ?_) _ _ _ e3) (.of_pure rfl)
              · simp only [hn, Bool.false_eq_true, if_false]
              · obtain ⟨D, eD, hD⟩ := hk k v hv
                simp only [hn, if_true, eD]
                exact (PySem.W.looks_nsIn X hD).andThen (.of_pure rfl)

/-! ### the same for all values -/
section
variable {α β : Type} (f : α → β)
def mp (l : List (Str × α)) : List (Str × β) := l.map fun q => (q.1, f q.2)
theorem mp_lookup (k : Str) : ∀ l : List (Str × α), (mp f l).lookup k = (l.lookup k).map f
  | [] => rfl
  | (j, v) :: r => by
    show List.lookup k ((j, f v) :: mp f r) = _
    by_cases h : k = j
    · subst h
      simp [List.lookup]
    · have e : (k == j) = false := by simpa using h
      simp only [List.lookup, e]
      exact mp_lookup k r
theorem mp_none (k : Str) (l : List (Str × α)) : ((mp f l).lookup k).isNone = (l.lookup k).isNone := by
  rw [mp_lookup]
  cases l.lookup k <;> rfl
theorem mp_app (l r : List (Str × α)) : mp f (l ++ r) = mp f l ++ mp f r := by simp [mp]
theorem mp_kw (ok : Str → Bool) : ∀ (kw s : List (Str × α)), pbKw ok (mp f s) (mp f kw) = (pbKw ok s kw).map (mp f)
  | [], s => rfl
  | (k, v) :: r, s => by
    show pbKw ok (mp f s) ((k, f v) :: mp f r) = _
    unfold pbKw
    rw [mp_none]
    cases (ok k && (s.lookup k).isNone) with
    | false => rfl
    | true =>
      simp only [cond_true]
      rw [← mp_kw ok r (s ++ [(k, v)]), mp_app]
      rfl
theorem mp_df : ∀ (l s : List (Str × α)), pbDf (mp f s) (mp f l) = mp f (pbDf s l)
  | [], s => rfl
  | (k, v) :: r, s => by
    show pbDf (mp f s) ((k, f v) :: mp f r) = _
    unfold pbDf
    rw [mp_none]
    cases (s.lookup k).isNone with
    | false => exact mp_df r s
    | true =>
      simp only [cond_true]
      rw [← mp_df r (s ++ [(k, v)]), mp_app]
      rfl
theorem mp_kd (kwd : Str → Option α) : ∀ (l : List Str) (s : List (Str × α)), pbKd (fun x => (kwd x).map f) (mp f s) l = (pbKd kwd s l).map (mp f)
  | [], s => rfl
  | k :: r, s => by
    unfold pbKd
    rw [mp_none]
    cases (s.lookup k).isNone with
    | false => exact mp_kd kwd r s
    | true =>
      simp only [cond_true]
      cases kwd k with
      | none => rfl
      | some v =>
        simp only [Option.map_some]
        rw [← mp_kd kwd r (s ++ [(k, v)]), mp_app]
        rfl
theorem mp_zip (l : List Str) (r : List α) : l.zip (r.map f) = mp f (l.zip r) := by
  induction l generalizing r with
  | nil => rfl
  | cons a l ih =>
    cases r with
    | nil => rfl
    | cons b r => simp [mp, List.zip_cons_cons]; exact ih r
theorem mp_end (a b : List Str) (s : List (Str × α)) : pbEnd a b (mp f s) = mp f (pbEnd a b s) := by
  unfold pbEnd mp
  rw [List.map_filterMap]
  congr 1
  funext n
  rw [show List.lookup n (s.map fun q => (q.1, f q.2)) = (s.lookup n).map f from mp_lookup f n s]
  cases s.lookup n <;> rfl
theorem mp_bind (normal kwonly : List Str) (pos : List α) (kw : List (Str × α)) (dfl : List α) (kwd : Str → Option α) : pbind normal kwonly (pos.map f) (mp f kw) (dfl.map f) (fun x => (kwd x).map f) = (pbind normal kwonly pos kw dfl kwd).map (mp f) := by
  unfold pbind
  rw [List.length_map]
  cases decide (pos.length ≤ normal.length) with
  | false => rfl
  | true =>
    simp only [cond_true]
    rw [mp_zip, mp_kw]
    cases pbKw (fun k => normal.contains k || kwonly.contains k) (normal.zip pos) kw with
    | none => rfl
    | some s1 =>
      simp only [Option.map_some, Option.bind_some, List.length_map, ← List.map_drop]
      have e : (fun n => (List.lookup n (mp f s1)).isNone) = fun n => (List.lookup n s1).isNone := funext fun n => mp_none f n s1
      rw [e]
      cases ((normal.take (normal.length - (dfl.drop (dfl.length - normal.length)).length)).filter fun n => (s1.lookup n).isNone).isEmpty with
      | false => rfl
      | true =>
        simp only [cond_true]
        rw [mp_zip, mp_df, mp_kd, Option.map_map, Option.map_map]
        congr 1
        funext s3
        exact mp_end f normal kwonly s3
end
/-! ### from a check to a call's shape -/
/-- a value as it is, or the i-th of those handed in -/
def pick (us : List Value) : Sum Nat Value → Value
  | .inl j => us.getD j .none
  | .inr u => u
def toks (i : Nat) : Nat → List (Sum Nat Value)
  | 0 => []
  | n + 1 => .inl i :: toks (i + 1) n
theorem toks_pick (pre : List Value) : ∀ (us post : List Value), (toks pre.length us.length).map (pick (pre ++ us ++ post)) = us
  | [], _ => rfl
  | u :: us, post => by
    simp only [List.length_cons, toks, List.map_cons]
    have h1 : pick (pre ++ u :: us ++ post) (.inl pre.length) = u := by
      unfold pick
      simp
    rw [h1]
    have h2 := toks_pick (pre ++ [u]) us post
    rw [List.length_append, List.length_singleton] at h2
    have e : pre ++ [u] ++ us ++ post = pre ++ u :: us ++ post := by simp
    rw [e] at h2
    rw [h2]
def dflL (K : PySem.W.Frag) (v : Value) : Option (List Value) := match v with
  | .none => some []
  | .ref T => (match K.lookup T with
    | some ⟨_, _, .seq its _, _⟩ => some its.toList
    | _ => none)
  | _ => none
def kwdL (K : PySem.W.Frag) (v : Value) (x : Str) : Option Value := match v with
  | .ref D => (match PySem.W.nsIn K D x with
    | some (some u) => some u
    | _ => none)
  | _ => none
/-- what is bound, with j positional values and the keywords ks -/
def bindT (K : PySem.W.Frag) (fd : FuncData) (j : Nat) (ks : List Str) : Option (List (Str × Sum Nat Value)) := match fd.params.posonlyargs, fd.params.vararg, fd.params.kwarg, dflL K fd.defaults with
  | [], none, none, some dfl => pbind (fd.params.args.map (·.arg)) (fd.params.kwonlyargs.map (·.arg)) (toks 0 j) (ks.zip (toks j ks.length)) (dfl.map .inr) (fun x => (kwdL K fd.kwdefaults x).map .inr)
  | _, _, _, _ => none
theorem bindT_ok {K : PySem.W.Frag} {fd : FuncData} {j : Nat} {ks : List Str} {bs : List (Str × Sum Nat Value)} (h : bindT K fd j ks = some bs) {s : Shared} (X : K.In s.heap) {us ws : List Value} (l1 : us.length = j) (l2 : ws.length = ks.length) : BindsTo s fd ⟨us, ks.zip ws⟩ (mp (pick (us ++ ws)) bs) := by
  unfold bindT at h
  split at h
  · rename_i dfl h1 h2 h3 h4
    refine L2.BindsTo.of_looks fun M => ?_
    have hd : DfK K fd.defaults dfl := by
      unfold dflL at h4
      split at h4
      · cases h4; exact .inl ⟨by assumption, rfl⟩
      · rename_i T e
        split at h4
        · rename_i q1 q2 its n q3 eq
          cases h4
          exact .inr ⟨T, _, n, e, eq, by simp⟩
        · cases h4
      · cases h4
    have hk : KwK K fd.kwdefaults (kwdL K fd.kwdefaults) := by
      intro x u hu
      unfold kwdL at hu
      split at hu
      · rename_i D e
        split at hu
        · rename_i q eq
          cases hu
          exact ⟨D, e, eq⟩
        · cases hu
      · cases hu
    refine bind_looks X h1 h2 h3 hd hk ?_
    have z := mp_bind (pick (us ++ ws)) (fd.params.args.map (·.arg)) (fd.params.kwonlyargs.map (·.arg)) (toks 0 j) (ks.zip (toks j ks.length)) (dfl.map .inr) (fun x => (kwdL K fd.kwdefaults x).map .inr)
    rw [h] at z
    have e1 : (toks 0 j).map (pick (us ++ ws)) = us := by
      have := toks_pick [] us ws
      rw [← l1]
      simpa using this
    have e2 : mp (pick (us ++ ws)) (ks.zip (toks j ks.length)) = ks.zip ws := by
      rw [← mp_zip]
      congr 1
      have := toks_pick us ws []
      rw [← l1, ← l2]
      simpa using this
    have e3 : (dfl.map Sum.inr).map (pick (us ++ ws)) = dfl := by
      rw [List.map_map]
      exact (List.map_congr_left fun _ _ => rfl).trans (List.map_id _)
    have e4 : (fun x => Option.map (pick (us ++ ws)) (Option.map Sum.inr (kwdL K fd.kwdefaults x))) = kwdL K fd.kwdefaults := by
      funext x
      cases kwdL K fd.kwdefaults x <;> rfl
    rw [e1, e2, e3, e4] at z
    exact z
  · cases h
end Tn

set_option Elab.async false
set_option linter.all false
set_option maxRecDepth 100000
set_option maxHeartbeats 1000000
namespace Tn
open PySem PySem.Spec PyProof.Rows L2

/-! ### the tables' names, and what the written part must show -/
inductive At where
  | g (x : Str) | m (c y : Str) | p (c f : Str) | s (c f : Str) | no
structure Mt where
  nm : List Str
  gn : List Str
  cn : List Str
  xn : List Str
  fs : List (At × List Str × List Str)
  mks : List Nat
  file : Str
def At.ad (K : PySem.W.Frag) : At → Addr
  | .g x => He.ga K x
  | .m c y => He.ma K (He.ga K c) y
  | .p c f => (match PySem.W.recIn K (He.ma K (He.ga K c) f) "property" with
    | some (.ref aa :: _) => aa
    | _ => 0)
  | .s c f => (match PySem.W.recIn K (He.ma K (He.ga K c) f) "staticmethod" with
    | some (.ref aa :: _) => aa
    | _ => 0)
  | .no => 0
def fdAt (K : PySem.W.Frag) (a : Addr) : FuncData := match K.lookup a with
  | some ⟨_, _, .func fd, _⟩ => fd
  | _ => PySem.W.fnOf Str.empty Str.empty ⟨[], [], none, [], [], none, []⟩ [] ⟨.function, [], false, false, []⟩ .none .none .none .none none .none .none
def nmOf (l : List Str) (i : Nat) : Str := match l[i]? with
  | some x => x
  | none => ⟨(List.replicate (i + 1) 0).toArray⟩
/-- a lambda's written form and its text -/
def lamC (P : Pg) (nm gn : Nat → Str) (k : Nat) (N : List Str) (params : Arguments) (body : Expr) (scope : Scope) : Bool := match P.fns[k]?, params with
  | some ⟨np, ns, md, .cons (.ret e) .nil⟩, ⟨[], [], none, [], [], none, []⟩ => ((decide (np = N.length) && (decide (ns = N.length) && decide (md = 4))) && (decide N.Nodup && ((match scope.kind with | .function => true | _ => false) && (!scope.isCoroutine && !scope.isGenerator)))) &&
      ((scope.names.all fun y => match y.2 with
        | .local => false
        | .cell => false
        | .free => N.contains y.1
        | _ => true) && cE P nm gn e ⟨N, scope, scope, false, fun _ _ _ _ _ => false⟩ body)
  | _, _ => false
/-- a def's code object and its table -/
def tabAt (K : PySem.W.Frag) (v : Value) : Option (Addr × Addr) := match v with
  | .ref c => (match K.lookup c with
    | some ⟨_, _, .fields vs, _⟩ => (match vs.getD 11 .none with
      | .ref p => some (c, p)
      | _ => none)
    | _ => none)
  | _ => none
def lamQ (q : Str) : Str := q ++ ".<locals>." ++ "<lambda>"
def adF (T : Mt) (K : PySem.W.Frag) (f : Nat) : Addr := match T.fs[f]? with
    | some q => q.1.ad K
    | none => 0
def tabF (T : Mt) (K : PySem.W.Frag) (f : Nat) : Option (Addr × Addr) := bif T.mks.contains f then tabAt K (fdAt K (adF T K f)).code else none
def mkG (T : Mt) (P : Pg) (K : PySem.W.Frag) : Gl where
  K := K
  ca := fun c => He.ga K (nmOf T.cn c)
  xa := fun c => He.ga K (nmOf T.xn c)
  fn := fun c => match P.cls[c]? with
    | some k => k.fields.map (nmOf T.nm)
    | none => []
  nm := nmOf T.nm
  fa := fun f => match T.fs[f]? with
    | some q => q.1.ad K
    | none => 0
  fd := fun f => fdAt K (match T.fs[f]? with
    | some q => q.1.ad K
    | none => 0)
  ps := fun f => match T.fs[f]? with
    | some q => q.2.1
    | none => []
  gn := nmOf T.gn
  isL := fun f => match P.fns[f]? with
    | some k => decide (k.mode = 4)
    | none => false
  lam := fun k N p b sc => lamC P (nmOf T.nm) (nmOf T.gn) k N p b sc = true
  T := T.mks.filterMap fun f => (tabF T K f).map fun q => (q.2, lamQ (fdAt K (adF T K f)).qualname)
  tab := fun f => tabF T K f
  file := T.file
def scopeB (N ps : List Str) (sc : Scope) : Bool := (match sc.kind with | .function => true | _ => false) && ((!sc.isCoroutine && !sc.isGenerator) && ((decide N.Nodup && decide (N.take ps.length = ps)) && ((ps.all fun x => locB sc x) && sc.names.all fun y => match y.2 with | .free => false | _ => true)))
def tbB (G : Gl) (f : Nat) (fd : FuncData) : Bool := match G.tab f with
  | some (c, tb) => (match fd.code with | .ref c' => c' == c | _ => false) && (G.T.contains (tb, lamQ fd.qualname) && G.T.all fun p => p.1 != tb || decide (p.2 = lamQ fd.qualname))
  | none => true
def funB (T : Mt) (P : Pg) (K : PySem.W.Frag) (f : Nat) (k : Fn) : Bool := match T.fs[f]?, K.lookup ((mkG T P K).fa f) with
  | some q, some ⟨_, _, .func fd, _⟩ => (match fd.body with
    | .stmts b => (decide (fd.globals = mainGlobals) && (fd.closure.isEmpty && (decide (fd.builtins = builtinsNs) && PySem.W.codeIn K fd.code fd.qualname))) && ((scopeB q.2.2 q.2.1 fd.scope && (decide (q.2.2.length = k.ns) && decide (q.2.1.length = k.np))) && (tbB (mkG T P K) f fd && cSs P (nmOf T.nm) (nmOf T.gn) k.body ⟨q.2.2, fd.scope, fd.scope, (tabF T K f).isSome, lamC P (nmOf T.nm) (nmOf T.gn)⟩ b))
    | _ => false)
  | _, _ => false
def funL (T : Mt) (f : Nat) (k : Fn) : Bool := match T.fs[f]? with
  | some q => decide (q.2.1.length = k.np)
  | none => false
theorem scopeB_ok {N ps : List Str} {sc : Scope} (h : scopeB N ps sc = true) : FnScope N ps sc := by
  obtain ⟨h1, h2⟩ := ba h
  obtain ⟨h3, h4⟩ := ba h2
  obtain ⟨h5, h6⟩ := ba h3
  obtain ⟨h7, h8⟩ := ba h4
  obtain ⟨h9, h10⟩ := ba h7
  obtain ⟨h11, h12⟩ := ba h8
  refine ⟨?_, nb h5, nb h6, of_decide_eq_true h9, of_decide_eq_true h10, fun x hx => ?_, fun y hy z => ?_⟩
  · cases e : sc.kind <;> rw [e] at h1 <;> first | rfl | cases h1
  · have z := List.all_eq_true.mp h11 x hx
    unfold locB at z
    cases e : sc.names.lookup x with
    | none => rw [e] at z; cases z
    | some q => rw [e] at z; cases q <;> simp_all
  · have q := List.all_eq_true.mp h12 y hy
    rw [z] at q
    cases q
theorem tbB_ok {G : Gl} {f : Nat} {fd : FuncData} {c tb : Addr} (h : tbB G f fd = true) (z : G.tab f = some (c, tb)) : fd.code = .ref c ∧ (tb, fd.qualname ++ ".<locals>." ++ "<lambda>") ∈ G.T ∧ ∀ p ∈ G.T, p.1 = tb → p.2 = fd.qualname ++ ".<locals>." ++ "<lambda>" := by
  unfold tbB at h
  rw [z] at h
  obtain ⟨h1, h2⟩ := ba h
  obtain ⟨h3, h4⟩ := ba h2
  refine ⟨?_, (by simpa using h3 : (tb, lamQ fd.qualname) ∈ G.T), fun p hp e => ?_⟩
  · cases q : fd.code <;> rw [q] at h1 <;> first | (cases h1; done) | skip
    rename_i c0
    have e0 : c0 = c := by simpa using h1
    rw [e0]
  · have q := List.all_eq_true.mp h4 p hp
    rw [e] at q
    have q2 : decide (p.2 = lamQ fd.qualname) = true := by simpa using q
    exact of_decide_eq_true q2
theorem lamC_ok {P : Pg} {nm gn : Nat → Str} {k : Nat} {N : List Str} {params : Arguments} {body : Expr} {scope : Scope} (h : lamC P nm gn k N params body scope = true) :
    ∃ e, P.fns[k]? = some ⟨N.length, N.length, 4, .cons (.ret e) .nil⟩ ∧ N.Nodup ∧ (scope.kind = .function ∧ scope.isCoroutine = false ∧ scope.isGenerator = false) ∧ (∀ y ∈ scope.names, y.2 ≠ .local ∧ y.2 ≠ .cell) ∧
    (∀ y, scope.names.lookup y = some .free → y ∈ N) ∧ (∀ (q : Str) (cl : List (Str × Addr)) (pm cv ctv : Value), bindArgs (PySem.W.kla_fn "<lambda>" q params body scope cl pm cv ctv) ⟨[], []⟩ = pure []) ∧ cE P nm gn e ⟨N, scope, scope, false, fun _ _ _ _ _ => false⟩ body = true := by
  unfold lamC at h
  split at h
  · rename_i np ns md e ek
    obtain ⟨h1, h2⟩ := ba h
    obtain ⟨h3, h4⟩ := ba h1
    obtain ⟨h5, h6⟩ := ba h3
    obtain ⟨h7, h8⟩ := ba h6
    obtain ⟨h9, h10⟩ := ba h4
    obtain ⟨h11, h12⟩ := ba h10
    obtain ⟨h13, h14⟩ := ba h12
    obtain ⟨h15, h16⟩ := ba h2
    have e1 := of_decide_eq_true h5
    have e2 := of_decide_eq_true h7
    have e3 := of_decide_eq_true h8
    subst e1 e2 e3
    refine ⟨e, ek, of_decide_eq_true h9, ⟨?_, nb h13, nb h14⟩, fun y hy => ?_, fun y hy => ?_, fun q cl pm cv ctv => rfl, h16⟩
    · cases q : scope.kind <;> rw [q] at h11 <;> first | rfl | cases h11
    · have q := List.all_eq_true.mp h15 y hy
      exact ⟨fun z => by simp [z] at q, fun z => by simp [z] at q⟩
    · have q := List.all_eq_true.mp h15 _ (PySem.mem_of_lookup hy)
      simpa using q
  · cases h
theorem funB_ok {T : Mt} {P : Pg} {K : PySem.W.Frag} {f : Nat} {k : Fn} (h : funB T P K f k = true) : FunF (mkG T P K) P f k := by
  unfold funB at h
  cases e1 : T.fs[f]? with
  | none => rw [e1] at h; cases h
  | some q =>
    rw [e1] at h
    cases e2 : K.lookup ((mkG T P K).fa f) with
    | none => rw [e2] at h; cases h
    | some o =>
      rw [e2] at h
      obtain ⟨oc, od, dt, osl⟩ := o
      cases dt with
      | func fd =>
        simp only at h
        cases e3 : fd.body with
        | stmts b =>
          rw [e3] at h
          obtain ⟨h1, h2⟩ := ba h
          obtain ⟨h3, h4⟩ := ba h1
          obtain ⟨h5, h6⟩ := ba h4
          obtain ⟨h7, h8⟩ := ba h6
          obtain ⟨h9, h10⟩ := ba h2
          obtain ⟨h11, h12⟩ := ba h9
          obtain ⟨h13, h14⟩ := ba h12
          obtain ⟨h15, h16⟩ := ba h10
          obtain ⟨n1, n2, n3, n4, n5, n6, n7, n8, n9, n10, n11, n12, n13, n14, n15⟩ := fd
          have g1 : n6 = mainGlobals := of_decide_eq_true h3
          have g2 : n7 = [] := by simpa using h5
          have g3 : n15 = builtinsNs := of_decide_eq_true h7
          have g4 : n4 = .stmts b := e3
          subst g1 g2 g3 g4
          have ef : (mkG T P K).fd f = fdAt K ((mkG T P K).fa f) := rfl
          have ep : (mkG T P K).ps f = q.2.1 := by
            show (match T.fs[f]? with | some q => q.2.1 | none => []) = _
            rw [e1]
          refine ⟨n1, n2, n3, b, n5, n8, n9, n10, n11, n13, n14, oc, n12, od, osl, q.2.2, e2, ?_, h8, by rw [ep]; exact scopeB_ok h11, of_decide_eq_true h13, by rw [ep]; exact of_decide_eq_true h14, ⟨lamC P (nmOf T.nm) (nmOf T.gn), fun _ _ _ _ _ z => z, h16⟩, fun c tb z => ?_⟩
          rotate_left
          · exact tbB_ok h15 z
          rw [ef]
          unfold fdAt
          rw [e2]
        | _ => rw [e3] at h; cases h
      | _ => cases h
/-- values that stand for simple data -/
def relD : Value → D → Bool
  | .none, .non => true
  | .bool b, .bl c => b == c
  | .int i _, .int j => decide (i = j)
  | .str x _, .str y => decide (x = y) && strB x
  | _, _ => false
theorem relD_ok {G : Gl} {u : Value} {d : D} (h : relD u d = true) : ∃ v, RelV v u ∧ ∀ ι H, Den G ι H v d := by
  cases u <;> cases d <;> first | (cases h; done) | skip
  · exact ⟨.non, rfl, fun _ _ => .non⟩
  · rename_i b c
    have e : b = c := by simpa [relD] using h
    subst e
    exact ⟨.bl b, rfl, fun _ _ => .bl b⟩
  · rename_i i t j
    have e : i = j := of_decide_eq_true h
    subst e
    exact ⟨.int i, ⟨t, rfl⟩, fun _ _ => .int i⟩
  · rename_i x t y
    obtain ⟨h1, h2⟩ := ba h
    have e : x = y := of_decide_eq_true h1
    subst e
    exact ⟨.str x, ⟨t, rfl⟩, fun _ _ => .str (strB_ok h2)⟩
def fillB : List (Sum Nat Value) → Fill → Bool
  | [], [] => true
  | .inl i :: r, .inl j :: r' => decide (i = j) && fillB r r'
  | .inr u :: r, .inr d :: r' => relD u d && fillB r r'
  | _, _ => false
theorem fillB_ok {G : Gl} : ∀ {fu : List (Sum Nat Value)} {fl : Fill}, fillB fu fl = true → FillRel G fu fl
  | [], [], _ => trivial
  | .inl i :: r, .inl j :: r', h => ⟨of_decide_eq_true (ba h).1, fillB_ok (ba h).2⟩
  | .inr u :: r, .inr d :: r', h => ⟨relD_ok (ba h).1, fillB_ok (ba h).2⟩
  | [], _ :: _, h => by cases h
  | .inl _ :: _, [], h => by cases h
  | .inr _ :: _, [], h => by cases h
  | .inl _ :: _, .inr _ :: _, h => by cases h
  | .inr _ :: _, .inl _ :: _, h => by cases h
/-- one place to the left -/
def downT : List (Sum Nat Value) → Option (List (Sum Nat Value))
  | [] => some []
  | .inl (j + 1) :: r => (downT r).map (.inl j :: ·)
  | .inl 0 :: _ => none
  | .inr u :: r => (downT r).map (.inr u :: ·)
theorem downT_ok (x : Value) (us : List Value) : ∀ {l r : List (Sum Nat Value)}, downT l = some r → l.map (pick (x :: us)) = fillU us r
  | [], r, h => by cases h; rfl
  | .inl (j + 1) :: l, r, h => by
    unfold downT at h
    cases e : downT l with
    | none => rw [e] at h; cases h
    | some t =>
      rw [e] at h
      cases h
      show pick (x :: us) (.inl (j + 1)) :: l.map (pick (x :: us)) = us.getD j .none :: fillU us t
      rw [downT_ok x us e]
      rfl
  | .inl 0 :: l, r, h => by cases h
  | .inr u :: l, r, h => by
    unfold downT at h
    cases e : downT l with
    | none => rw [e] at h; cases h
    | some t =>
      rw [e] at h
      cases h
      show u :: l.map (pick (x :: us)) = u :: fillU us t
      rw [downT_ok x us e]
theorem mp_zip2 {α β : Type} (f : α → β) : ∀ l : List (Str × α), mp f l = (l.map (·.1)).zip ((l.map (·.2)).map f)
  | [] => rfl
  | (k, v) :: r => by
    show (k, f v) :: mp f r = (k, f v) :: _
    rw [mp_zip2 f r]
    rfl
def shpFB (K : PySem.W.Frag) (fd : FuncData) (ps : List Str) (n : Nat) (ks : List Str) (fl : Fill) : Bool := match bindT K fd n ks with
  | some r => decide (r.map (·.1) = ps) && fillB (r.map (·.2)) fl
  | none => false
def shpCB (K : PySem.W.Frag) (fd : FuncData) (ps : List Str) (n : Nat) (ks : List Str) (fl : Fill) : Bool := match bindT K fd (n + 1) ks with
  | some ((x, .inl 0) :: r) => decide (x :: r.map (·.1) = ps) && (match downT (r.map (·.2)) with
    | some fu => fillB fu fl
    | none => false)
  | _ => false
def posB (K : PySem.W.Frag) (fd : FuncData) (ps : List Str) : Bool := match bindT K fd ps.length [] with
  | some r => decide (r.map (·.1) = ps) && decide (r.map (·.2) = toks 0 ps.length)
  | none => false
theorem shpFB_ok {G : Gl} {f n : Nat} {ks : List Nat} {fl : Fill} (hi : G.isL f = false) (h : shpFB G.K (G.fd f) (G.ps f) n (ks.map G.nm) fl = true) : ShpF G f n ks fl := by
  unfold shpFB at h
  cases e : bindT G.K (G.fd f) n (ks.map G.nm) with
  | none => rw [e] at h; cases h
  | some r =>
    rw [e] at h
    obtain ⟨h1, h2⟩ := ba h
    refine ⟨hi, r.map (·.2), fillB_ok h2, fun s us ws X l1 l2 => ?_⟩
    have z := bindT_ok e X l1 (us := us) (ws := ws) (by rw [List.length_map]; exact l2)
    rw [mp_zip2, of_decide_eq_true h1] at z
    exact z
theorem shpCB_ok {G : Gl} {f n : Nat} {ks : List Nat} {fl : Fill} (hi : G.isL f = false) (h : shpCB G.K (G.fd f) (G.ps f) n (ks.map G.nm) fl = true) : ShpC G f n ks fl := by
  unfold shpCB at h
  split at h
  · rename_i x r e
    obtain ⟨h1, h2⟩ := ba h
    cases ed : downT (r.map (·.2)) with
    | none => rw [ed] at h2; cases h2
    | some fu =>
      rw [ed] at h2
      refine ⟨hi, fu, fillB_ok h2, fun s v us ws X l1 l2 => ?_⟩
      have z := bindT_ok e X (us := v :: us) (ws := ws) (by simp [l1]) (by rw [List.length_map]; exact l2)
      rw [mp_zip2] at z
      have e1 : (((x, Sum.inl 0) :: r : List (Str × Sum Nat Value)).map (·.1)) = G.ps f := of_decide_eq_true h1
      rw [e1] at z
      have e2 : (((x, Sum.inl 0) :: r : List (Str × Sum Nat Value)).map (·.2)).map (pick (v :: us ++ ws)) = v :: fillU (us ++ ws) fu := by
        show pick (v :: (us ++ ws)) (.inl 0) :: (r.map (·.2)).map (pick (v :: (us ++ ws))) = _
        rw [downT_ok v (us ++ ws) ed]
        rfl
      rw [e2] at z
      exact z
  · cases h
theorem posB_ok {K : PySem.W.Frag} {fd : FuncData} {ps : List Str} (h : posB K fd ps = true) : ∀ (s : Shared) (us : List Value), K.In s.heap → us.length = ps.length → BindsTo s fd ⟨us, []⟩ (ps.zip us) := by
  unfold posB at h
  cases e : bindT K fd ps.length [] with
  | none => rw [e] at h; cases h
  | some r =>
    rw [e] at h
    obtain ⟨h1, h2⟩ := ba h
    intro s us X hl
    have z := bindT_ok e X hl (ws := []) rfl
    rw [mp_zip2, of_decide_eq_true h1, of_decide_eq_true h2, List.append_nil] at z
    have := toks_pick [] us []
    rw [← hl] at z
    have e3 : (toks 0 us.length).map (pick us) = us := by simpa using this
    rw [e3] at z
    exact z
end Tn

set_option Elab.async false
set_option linter.all false
set_option maxRecDepth 100000
set_option maxHeartbeats 1000000
namespace Tn
open PySem PySem.Spec PyProof.Rows L2

abbrev eqO := He.eqO
/-- what a static method must show -/
def statOkB (G : Gl) (c : Nat) (q : Nat × Nat) : Bool := ((!G.isL q.2 && posB G.K (G.fd q.2) (G.ps q.2)) && (eqO (PySem.W.specialIn G.K (.ref (G.ca c)) "__getattribute__") (some (some (.builtin "type.__getattribute__"))) && (PySem.W.readsIn G.K (G.ca c) (.type "type") && PySem.W.keepIn G.K (.ref (G.fa q.2))))) &&
  (match PySem.W.findCls G.K (.ref (G.ca c)) (.type "type") (G.nm q.1) with
    | some (.get (.builtin b) (.ref p) .none (.ref d)) => (b == "staticmethod.__get__" && decide (d = G.ca c)) && (match PySem.W.recIn G.K p "staticmethod" with
      | some (.ref f :: _) => decide (f = G.fa q.2)
      | _ => false)
    | _ => false)
theorem statOkB_ok {G : Gl} {c m g : Nat} (h : statOkB G c (m, g) = true) : PosB G g ∧ StatIn G.K (G.ca c) (G.nm m) (G.fa g) := by
  obtain ⟨h1, h2⟩ := ba h
  obtain ⟨h3, h4⟩ := ba h1
  obtain ⟨h5, h6⟩ := ba h4
  obtain ⟨h7, h8⟩ := ba h6
  refine ⟨⟨nb (ba h3).1, posB_ok (ba h3).2⟩, He.eqO_ok h5, h7, ?_, h8⟩
  split at h2
  · rename_i b p d e1
    obtain ⟨h9, h10⟩ := ba h2
    obtain ⟨h11, h12⟩ := ba h9
    have e2 : b = "staticmethod.__get__" := by simpa using h11
    have e3 := of_decide_eq_true h12
    subst e2 e3
    split at h10
    · rename_i f rest e4
      have e5 : f = G.fa g := of_decide_eq_true h10
      subst e5
      exact ⟨p, rest, e1, e4⟩
    · cases h10
  · cases h2
/-- what a class must show -/
def clsB (G : Gl) (c : Nat) (k : Tn.Cls) : Bool :=
  ((PySem.W.plainGet G.K (G.ca c) Str.empty && (PySem.W.hasDictIn G.K (G.ca c) && (PySem.W.plainOver G.K (G.ca c) && eqO (PySem.W.findIn G.K (.ref (G.ca c)) "__setattr__") (some (some (.builtin "object.__setattr__")))))) &&
    (PySem.W.makesIn G.K (G.ca c) && (eqO (PySem.W.findIn G.K (.ref (G.ca c)) "__init__") (some (some (.ref (G.fa k.init)))) && (PySem.W.isFn G.K (.ref (G.fa k.init)) && PySem.W.keepIn G.K (.ref (G.ca c)))))) &&
  (((k.fields.all fun f => eqO (PySem.W.findIn G.K (.ref (G.ca c)) (G.nm f)) (some none)) &&
    (k.props.all fun q => (!G.isL q.2 && posB G.K (G.fd q.2) (G.ps q.2)) && (match PySem.W.findIn G.K (.ref (G.ca c)) (G.nm q.1) with
      | some (some (.ref p)) => eqO (PySem.W.specialIn G.K (.ref p) "__get__") (some (some (.builtin "property.__get__"))) && (decide (PySem.W.takesIn G.K (.ref p) = some true) && (match PySem.W.recIn G.K p "property" with
        | some (.ref g :: _) => decide (g = G.fa q.2)
        | _ => false))
      | _ => false))) &&
   ((k.meths.all fun q => !k.fields.contains q.1 && ((!G.isL q.2 && posB G.K (G.fd q.2) (G.ps q.2)) && (eqO (PySem.W.findIn G.K (.ref (G.ca c)) (G.nm q.1)) (some (some (.ref (G.fa q.2)))) && (PySem.W.isFn G.K (.ref (G.fa q.2)) && PySem.W.keepIn G.K (.ref (G.fa q.2)))))) &&
    (PySem.W.selfFirst G.K (G.ca c) && (eqO (PySem.W.findIn G.K (.ref (G.ca c)) (dunderR "mul")) (some none) && (eqO (PySem.W.findIn G.K (.ref (G.ca c)) "__ne__") (some (some (.builtin "object.__ne__"))) && (eqO (PySem.W.findIn G.K (.ref (G.ca c)) "__class__") (some (some (.builtin "object.__class__"))) && (eqO (PySem.W.specialIn G.K (.builtin "object.__class__") "__get__") (some (some (.builtin "getset_descriptor.__get__"))) &&
      (decide (PySem.W.takesIn G.K (.builtin "object.__class__") = some true) && (decide (PySem.W.mroIn G.K (G.ca c) (.type "object") = some true) && k.stats.all (statOkB G c))))))))))
theorem lookup_mem {α β : Type} [BEq α] [LawfulBEq α] {a : α} {b : β} : ∀ {l : List (α × β)}, l.lookup a = some b → (a, b) ∈ l
  | [], h => by simp at h
  | (x, y) :: r, h => by
    by_cases e : a = x
    · subst e
      have : y = b := by simpa [List.lookup] using h
      rw [this]
      exact List.mem_cons_self
    · have e2 : (a == x) = false := by simpa using e
      exact List.mem_cons_of_mem _ (lookup_mem (by simpa [List.lookup, e2] using h))
theorem clsB_ok {G : Gl} {c : Nat} {k : Tn.Cls} (hf : G.fn c = k.fields.map G.nm) (h : clsB G c k = true) : ClsG G c k := by
  obtain ⟨h1, h2⟩ := ba h
  obtain ⟨a, b⟩ := ba h1
  obtain ⟨a1, a⟩ := ba a
  obtain ⟨a2, a⟩ := ba a
  obtain ⟨a3, a4⟩ := ba a
  obtain ⟨b1, b⟩ := ba b
  obtain ⟨b2, b⟩ := ba b
  obtain ⟨b3, b4⟩ := ba b
  obtain ⟨h3, h4⟩ := ba h2
  obtain ⟨c1, c2⟩ := ba h3
  obtain ⟨d1, d⟩ := ba h4
  obtain ⟨d2, d⟩ := ba d
  obtain ⟨d9, d⟩ := ba d
  obtain ⟨d8, d⟩ := ba d
  obtain ⟨d3, d⟩ := ba d
  obtain ⟨d4, d⟩ := ba d
  obtain ⟨d5, d⟩ := ba d
  obtain ⟨d6, d7⟩ := ba d
  refine ⟨⟨a1, a2, a3, He.eqO_ok a4⟩, ⟨b1, He.eqO_ok b2, b3, b4⟩, hf, fun f hf => He.eqO_ok (List.all_eq_true.mp c1 f hf), fun f g hl => ?_, fun m g hl => ?_, d2, He.eqO_ok d9, He.eqO_ok d8, He.eqO_ok d3, He.eqO_ok d4, of_decide_eq_true d5, of_decide_eq_true d6, fun m g hl => statOkB_ok (List.all_eq_true.mp d7 _ (lookup_mem hl))⟩
  · have z := List.all_eq_true.mp c2 _ (lookup_mem hl)
    obtain ⟨z1, z2⟩ := ba z
    refine ⟨⟨nb (ba z1).1, posB_ok (ba z1).2⟩, ?_⟩
    simp only at z2
    split at z2
    · rename_i p hp
      obtain ⟨z3, z4⟩ := ba z2
      obtain ⟨z5, z6⟩ := ba z4
      split at z6
      · rename_i g' rest hr
        have e : g' = G.fa g := of_decide_eq_true z6
        subst e
        exact ⟨p, hp, He.eqO_ok z3, of_decide_eq_true z5, rest, hr⟩
      · cases z6
    · cases z2
  · have z := List.all_eq_true.mp d1 _ (lookup_mem hl)
    obtain ⟨z1, z2⟩ := ba z
    obtain ⟨z3, z4⟩ := ba z2
    obtain ⟨z5, z6⟩ := ba z4
    obtain ⟨z7, z8⟩ := ba z6
    exact ⟨by simpa using nb z1, ⟨nb (ba z3).1, posB_ok (ba z3).2⟩, He.eqO_ok z5, z7, z8⟩
def gloB2 (G : Gl) (g : Nat) : Gk → Bool
  | .cst d => (match PySem.W.nsIn G.K mainGlobals (G.gn g) with
    | some (some u) => relD u d
    | _ => false)
  | .fn f => eqO (PySem.W.nsIn G.K mainGlobals (G.gn g)) (some (some (.ref (G.fa f)))) && PySem.W.keepIn G.K (.ref (G.fa f))
  | .cls c => eqO (PySem.W.nsIn G.K mainGlobals (G.gn g)) (some (some (.ref (G.ca c))))
  | .exc c => eqO (PySem.W.nsIn G.K mainGlobals (G.gn g)) (some (some (.ref (G.xa c))))
theorem gloB2_ok {G : Gl} {h : Heap} {mg : Str → Option Value} (X : G.K.In h) (N : h.Ns mainGlobals mg) {g : Nat} {q : Gk} (c : gloB2 G g q = true) : GkOk G mg g q := by
  cases q with
  | cst d =>
    simp only [gloB2] at c
    split at c
    · rename_i u hu
      obtain ⟨v, rv, dv⟩ := relD_ok (G := G) c
      exact ⟨u, v, PySem.W.mg_of X N hu, rv, dv⟩
    · cases c
  | fn f =>
    obtain ⟨c1, c2⟩ := ba c
    exact ⟨PySem.W.mg_of X N (He.eqO_ok c1), c2⟩
  | cls k => exact PySem.W.mg_of X N (He.eqO_ok c)
  | exc k => exact PySem.W.mg_of X N (He.eqO_ok c)
def idxB {α : Type} (f : Nat → α → Bool) : Nat → List α → Bool
  | _, [] => true
  | i, a :: r => f i a && idxB f (i + 1) r
theorem idxB_ok {α : Type} {f : Nat → α → Bool} : ∀ {l : List α} {i j : Nat} {a : α}, idxB f i l = true → l[j]? = some a → f (i + j) a = true
  | [], _, _, _, _, h => by simp at h
  | b :: r, i, 0, a, h, e => by
    have : b = a := by simpa using e
    subst this
    exact (ba h).1
  | b :: r, i, j + 1, a, h, e => by
    have := idxB_ok (j := j) (a := a) (ba h).2 (by simpa using e)
    rw [← this]
    congr 1
    omega
def ctAll (P : Pg) : List Ct := [.int, .bool, .str, .tup, .lst, .dic, .ve] ++ (List.range P.cls.length).map Ct.own ++ (List.range P.nx).map Ct.exc
theorem ctAll_mem {P : Pg} {ct : Ct} (h : ctOk P ct = true) : ct ∈ ctAll P := by
  unfold ctAll
  cases ct with
  | own c =>
    refine List.mem_append_left _ (List.mem_append_right _ (List.mem_map.mpr ⟨c, ?_, rfl⟩))
    cases e : P.cls[c]? with
    | none => simp [ctOk, e] at h
    | some k => exact List.mem_range.mpr (List.getElem?_eq_some_iff.mp e).1
  | exc c => exact List.mem_append_right _ (List.mem_map.mpr ⟨c, List.mem_range.mpr (of_decide_eq_true h), rfl⟩)
  | _ => exact List.mem_append_left _ (List.mem_append_left _ (by simp))
/-- an error's class by its look -/
def errB (K : PySem.W.Frag) (file : Str) (C : Addr) : Bool := match PySem.W.findIn K (.ref C) "__init__" with
  | some (some (.ref fI)) => decide (PySem.W.typeIn K (.ref fI) = some (.type "function")) && (match K.lookup fI with
    | some ⟨_, _, .func fd, _⟩ => (match fd.body, fd.closure, fd.code, (fd.params.posonlyargs ++ fd.params.args).head? with
      | .stmts [.Expr (.Call (.Attribute (.Call (.Name s0 _) [] [] _) s1 p2) [.Name s2 _] [] p4) _, .Assign [.Attribute (.Name s3 _) s4 _] (.Name s5 _) _], [(s6, cc)], .ref cda, some ar =>
        (((decide (s0 = "super") && (decide (s1 = "__init__") && (decide (s2 = "value") && decide (s3 = "self")))) && (decide (s4 = "value") && (decide (s5 = "value") && (decide (s6 = "__class__") && decide (ar.arg = "self"))))) &&
         ((decide (fd.globals = mainGlobals) && (decide (fd.builtins = builtinsNs) && (PySem.W.codeIn K (.ref cda) fd.qualname && posB K fd [("self" : Str), ("value" : Str)]))) &&
          (((decide (fd.scope.names.lookup ("self" : Str) = some .local) && (decide (fd.scope.names.lookup ("value" : Str) = some .local) && (decide (fd.scope.names.lookup ("super" : Str) = some .globalImplicit) && decide (fd.scope.names.lookup ("__class__" : Str) = some .free)))) &&
            (((fd.scope.names.all fun x => match x.2 with | .cell => false | _ => true) && (match fd.scope.kind with | .function => true | _ => false)) && ((!fd.scope.isCoroutine && !fd.scope.isGenerator) && (p2.endLine == p4.line)))) &&
           (match K.lookup cda, K.lookup cc with
            | some ⟨_, _, .fields vs, _⟩, some ⟨_, _, .cell (some (.ref D)), _⟩ => (match (vs[2]? : Option Value) with | some (.str fl _) => decide (fl = file) | _ => false) && ((PySem.W.clsIn K D).isSome && (decide (PySem.W.mroIn K C (.ref D) = some true) && (eqO (PySem.W.nsIn K mainGlobals "super") (some none) &&
                (eqO (PySem.W.nsIn K cStatics "thirdparty.any") (some none) && (eqO (PySem.W.ks_superIn K C D "__init__") (some (some (.builtin "ValueError.__init__"))) && decide (PySem.W.subIn K (.ref C) (.type "ValueError") = some true))))))
            | _, _ => false))))
      | _, _, _, _ => false)
    | _ => false)
  | _ => false
theorem errB_ok {G : Gl} {C : Addr} (h : errB G.K G.file C = true) : ErrMk G C := by
  unfold errB at h
  split at h
  · rename_i fI e1
    obtain ⟨h1, h2⟩ := ba h
    split at h2
    · rename_i oc od fd osl e2
      split at h2
      · rename_i s0 p0 p1 s1 p2 s2 p3 p4 p5 s3 p6 s4 p7 s5 p8 p9 s6 cc cda ar e3 e4 e5 e6
        obtain ⟨a1, a2⟩ := ba h2
        obtain ⟨a3, a4⟩ := ba a1
        obtain ⟨b1, b2⟩ := ba a3
        obtain ⟨b3, b4⟩ := ba b2
        obtain ⟨b5, b6⟩ := ba b4
        obtain ⟨b7, b8⟩ := ba a4
        obtain ⟨b9, b10⟩ := ba b8
        obtain ⟨b11, b12⟩ := ba b10
        obtain ⟨c1, c2⟩ := ba a2
        obtain ⟨c3, c4⟩ := ba c1
        obtain ⟨c5, c6⟩ := ba c4
        obtain ⟨c7, c8⟩ := ba c6
        obtain ⟨d1, d2⟩ := ba c2
        obtain ⟨d3, d4⟩ := ba d1
        obtain ⟨d5, d6⟩ := ba d3
        obtain ⟨d7, d8⟩ := ba d6
        obtain ⟨d9, d10⟩ := ba d8
        obtain ⟨f1, f2⟩ := ba d4
        obtain ⟨f3, f4⟩ := ba f1
        obtain ⟨f5, f6⟩ := ba f2
        obtain ⟨f7, f8⟩ := ba f5
        split at d2
        · rename_i ccl cdd vs ccs cl cld D csl e7 e8
          obtain ⟨g1, g2⟩ := ba d2
          obtain ⟨g3, g4⟩ := ba g2
          obtain ⟨g5, g6⟩ := ba g4
          obtain ⟨g7, g8⟩ := ba g6
          obtain ⟨g9, g10⟩ := ba g8
          obtain ⟨g11, g12⟩ := ba g10
          split at g1
          · rename_i fl tf e9
            obtain ⟨n1, n2, n3, n4, n5, n6, n7, n8, n9, n10, n11, n12, n13, n14, n15⟩ := fd
            have z1 : n6 = mainGlobals := of_decide_eq_true c3
            have z2 : n15 = builtinsNs := of_decide_eq_true c5
            have z3 := of_decide_eq_true b1
            have z4 := of_decide_eq_true b3
            have z5 := of_decide_eq_true b5
            have z6 := of_decide_eq_true b6
            have z7 := of_decide_eq_true b7
            have z8 := of_decide_eq_true b9
            have z9 := of_decide_eq_true b11
            have z10 := of_decide_eq_true g1
            subst z3 z4 z5 z6 z7 z8 z9 z10
            simp only at e3 e4 e5 e6
            subst z1 z2 e3 e4 e5
            obtain ⟨cdD, hD⟩ := Option.isSome_iff_exists.mp g3
            refine ⟨fI, cda, cc, D, n1, n2, n3, n5, n8, n9, n10, n11, n14, oc, ccl, cl, n12, od, cdd, cld, osl, ccs, csl, vs, tf, cdD, ar, p0, p1, p2, p3, p4, p5, p6, p7, p8, p9, ⟨e1, of_decide_eq_true h1, e2, c7⟩, fun s a b X => posB_ok c8 s [a, b] X rfl, ⟨e6, of_decide_eq_true b12, of_decide_eq_true d5, of_decide_eq_true d7, of_decide_eq_true d9, of_decide_eq_true d10, fun x hx => ?_, ?_, nb f7, nb f8, f6⟩, ⟨e7, e9, e8, hD, of_decide_eq_true g5, He.eqO_ok g7⟩, He.eqO_ok g9, He.eqO_ok g11, of_decide_eq_true g12⟩
            · have q := List.all_eq_true.mp f3 x hx
              intro z
              simp [z] at q
            · cases q : n5.kind <;> simp [q] at f4 <;> rfl
          · cases g1
        · cases d2
      · cases h2
    · cases h2
  · cases h
def oexB (K : PySem.W.Frag) (C : Addr) : Bool := match K.lookup C with
  | some ⟨.type "type", _, .cls cd, sl⟩ => (match cd.mro, sl.toList with
    | .ref C' :: bm, [_, _, _, _, some (.builtin nn), _] => (decide (C' = C) && (nn == "ValueError.__new__" && (!cd.hasDel && (cd.hasDict && HandSPX.refsVE bm))))
    | _, _ => false)
  | _ => false
def excGB (G : Gl) (c : Nat) : Bool :=
  ((PySem.W.excInitIn G.K (G.xa c) PySem.HandSPX.veTail "ValueError.__new__" && oexB G.K (G.xa c)) && (eqO (PySem.W.findIn G.K (.ref (G.xa c)) "__setattr__") (some (some (.builtin "object.__setattr__"))) && (decide (PySem.W.subIn G.K (.ref (G.xa c)) (.type "BaseException") = some true) && (decide (PySem.W.typeIn G.K (.ref (G.xa c)) = some (.type "type")) && PySem.W.keepIn G.K (.ref (G.xa c)))))) &&
  ((xfB G.K (G.xa c) && (eqO (PySem.W.findIn G.K (.ref (G.xa c)) "value") (some none) && errB G.K G.file (G.xa c))) &&
   ((PySem.W.clsIn G.K (G.xa c)).isSome && (eqO (PySem.W.findIn G.K (.ref (G.xa c)) "__class__") (some (some (.builtin "object.__class__"))) && (eqO (PySem.W.specialIn G.K (.builtin "object.__class__") "__get__") (some (some (.builtin "getset_descriptor.__get__"))) && (decide (PySem.W.takesIn G.K (.builtin "object.__class__") = some true) && decide (PySem.W.mroIn G.K (G.xa c) (.type "object") = some true))))))
theorem oexB_ok {K : PySem.W.Frag} {C : Addr} (h : oexB K C = true) : ∃ nm q N bs bm sn sub ab col dd k0 k1 k2 k3 k5, K.lookup C = some (excClassObj nm q C N bs bm true sn sub ab col dd k0 k1 k2 k3 k5 "ValueError.__new__") ∧ PySem.HandSPX.refsVE bm = true := by
  unfold oexB at h
  split at h
  · rename_i od cd sl e1
    split at h
    · rename_i C' bm k0 k1 k2 k3 nn k5 e2 e3
      obtain ⟨h1, h2⟩ := ba h
      obtain ⟨h3, h4⟩ := ba h2
      obtain ⟨h5, h6⟩ := ba h4
      obtain ⟨h7, h8⟩ := ba h6
      obtain ⟨a1, a2, a3, a4, a5, a6, a7, a8, a9, a10, a11⟩ := cd
      have e4 : nn = "ValueError.__new__" := by simpa using h3
      have e5 := of_decide_eq_true h1
      have e6 : a11 = false := nb h5
      have e7 : a6 = true := h7
      have e8 : sl = #[k0, k1, k2, k3, some (.builtin nn), k5] := by
        apply Array.ext'
        rw [e3]
      simp only at e2
      subst e4 e5 e6 e7 e2 e8
      exact ⟨a1, a5, a4, a2, bm, a7, a8, a9, a10, od, k0, k1, k2, k3, k5, e1, h8⟩
    · cases h
  · cases h
theorem excGB_ok {G : Gl} {c : Nat} (h : excGB G c = true) : ExcG G c := by
  obtain ⟨h1, h2⟩ := ba h
  obtain ⟨h3, h4⟩ := ba h1
  obtain ⟨h5, h6⟩ := ba h3
  obtain ⟨h7, h8⟩ := ba h4
  obtain ⟨h9, h10⟩ := ba h8
  obtain ⟨h11, h12⟩ := ba h10
  obtain ⟨g1, g2⟩ := ba h2
  obtain ⟨g3, g4⟩ := ba g1
  obtain ⟨g5, g6⟩ := ba g4
  obtain ⟨g7, g8⟩ := ba g2
  obtain ⟨g9, g10⟩ := ba g8
  obtain ⟨g11, g12⟩ := ba g10
  obtain ⟨g13, g14⟩ := ba g12
  exact ⟨⟨oexB_ok h6, He.eqO_ok h7, of_decide_eq_true h9, of_decide_eq_true h11, h12⟩, xfB_ok g3, He.eqO_ok g5, errB_ok g6, h5, g7, He.eqO_ok g9, He.eqO_ok g11, of_decide_eq_true g13, of_decide_eq_true g14⟩
def nmsL : List Str := [Str.ofString "__eq__", Str.ofString "__invert__", Str.ofString "__rshift__", Str.ofString "__mul__", Str.ofString "__call__", Str.ofString "__len__", Str.ofString "__getitem__", Str.ofString "__contains__", Str.ofString "__add__", Str.ofString "__or__", Str.ofString "__neg__", Str.ofString "value"]
def headOk (x : Str) : Bool := match x.cps.toList with
  | 0 :: _ => false
  | _ => true
def namesB (T : Mt) : Bool := decide (T.nm.Nodup) && (T.nm.all headOk && decide (T.nm.take 12 = nmsL))
def goodB (T : Mt) (P : Pg) (K : PySem.W.Frag) : Bool :=
  ((idxB (fun c k => clsB (mkG T P K) c k) 0 P.cls && idxB (fun g q => gloB2 (mkG T P K) g q) 0 P.glo) &&
   (idxB (fun c _ => (idxB (fun c' _ => PySem.W.notFirst K ((mkG T P K).ca c) (.ref ((mkG T P K).ca c'))) 0 P.cls) && plainTs.all fun t => PySem.W.notFirst K ((mkG T P K).ca c) (.type t)) 0 P.cls &&
    ((ctAll P).all fun ct => (plainTs.all fun t => decide (PySem.W.kitOne K (.type t) (ctV (mkG T P K) ct) = some (isiT t ct))) && idxB (fun c _ => decide (PySem.W.kitOne K (.ref ((mkG T P K).ca c)) (ctV (mkG T P K) ct) = some (match ct with | .own c' => c == c' | _ => false))) 0 P.cls))) &&
  (((P.shp.all fun q => match P.glo[q.1]? with
      | some (.fn f) => !(mkG T P K).isL f && shpFB K ((mkG T P K).fd f) ((mkG T P K).ps f) q.2.1 (q.2.2.1.map (mkG T P K).nm) q.2.2.2
      | some (.cls c) => (match P.cls[c]? with
        | some k => !(mkG T P K).isL k.init && shpCB K ((mkG T P K).fd k.init) ((mkG T P K).ps k.init) q.2.1 (q.2.2.1.map (mkG T P K).nm) q.2.2.2
        | none => true)
      | _ => true) &&
    (bltNs.all fun x => eqO (PySem.W.nsIn K mainGlobals x) (some none))) &&
   ((P.cls.all fun k => match k.meths.lookup nCall with
      | some g => PySem.W.fnIn K ((mkG T P K).fa g)
      | none => true) &&
    ((match K.lookup sysModules with
      | some o => decide (o.cls ≠ .type "list")
      | none => false) && (idxB (fun f k => bif decide (k.mode = 4) then funL T f k else funB T P K f k) 0 P.fns && (((List.range P.nx).all fun c => excGB (mkG T P K) c && ((List.range P.nx).all fun c' => decide (PySem.W.exmOne K (.ref ((mkG T P K).xa c)) (.ref ((mkG T P K).xa c')) = some (c == c' || c' == 0))) &&
        (ctAll P).all fun ct => decide (PySem.W.kitOne K (.ref ((mkG T P K).xa c)) (ctV (mkG T P K) ct) = some (isiX c ct))) && P.glo.all fun q => match q with | .exc c => decide (c < P.nx) | _ => true)))))
theorem nm_inj {l : List Str} (nd : l.Nodup) (hd : l.all headOk = true) : ∀ i j, nmOf l i = nmOf l j → i = j := by
  have ix : ∀ (l : List Str), l.Nodup → ∀ (i j : Nat) (x : Str), l[i]? = some x → l[j]? = some x → i = j := by
    intro l
    induction l with
    | nil => intro _ i j x h; simp at h
    | cons y ys ih =>
      intro nd i j x h h'
      obtain ⟨n1, n2⟩ := List.nodup_cons.mp nd
      cases i with
      | zero =>
        cases j with
        | zero => rfl
        | succ j =>
          have a1 : y = x := by simpa using h
          have a2 : ys[j]? = some x := by simpa using h'
          exact absurd (a1 ▸ List.mem_of_getElem? a2) n1
      | succ i =>
        cases j with
        | zero =>
          have a1 : y = x := by simpa using h'
          have a2 : ys[i]? = some x := by simpa using h
          exact absurd (a1 ▸ List.mem_of_getElem? a2) n1
        | succ j => rw [ih n2 i j x (by simpa using h) (by simpa using h')]
  have bad : ∀ i j x, l[i]? = some x → nmOf l j = x → l[j]? = none → False := fun i j x h1 h2 h3 => by
    unfold nmOf at h2
    rw [h3] at h2
    have z := List.all_eq_true.mp hd x (List.mem_of_getElem? h1)
    rw [← h2] at z
    unfold headOk at z
    simp [List.replicate_succ] at z
  intro i j h
  cases e1 : l[i]? with
  | some x =>
    have h1 : nmOf l i = x := by unfold nmOf; rw [e1]
    cases e2 : l[j]? with
    | some y =>
      have h2 : nmOf l j = y := by unfold nmOf; rw [e2]
      have e : x = y := by rw [← h1, h, h2]
      subst e
      exact ix l nd i j x e1 e2
    | none => exact (bad i j x e1 (by rw [← h, h1]) e2).elim
  | none =>
    cases e2 : l[j]? with
    | some y =>
      have h2 : nmOf l j = y := by unfold nmOf; rw [e2]
      exact (bad j i y e2 (by rw [h, h2]) e1).elim
    | none =>
      unfold nmOf at h
      rw [e1, e2] at h
      have e := congrArg (fun s : Str => s.cps.size) h
      simp at e
      exact e
theorem goodB_ok {T : Mt} {P : Pg} {K : PySem.W.Frag} {h : Heap} {mg : Str → Option Value} (X : K.In h) (N : h.Ns mainGlobals mg) (hn : namesB T = true) (c : goodB T P K = true) : GoodP (mkG T P K) P mg ∧ AllF (mkG T P K) P := by
  obtain ⟨n1, n2⟩ := ba hn
  obtain ⟨n3, n4⟩ := ba n2
  have nd : T.nm.Nodup := of_decide_eq_true n1
  have tk : T.nm.take 12 = nmsL := of_decide_eq_true n4
  have at_ : ∀ i x, i < 12 → nmsL[i]? = some x → nmOf T.nm i = x := fun i x hi e => by
    rw [← tk, List.getElem?_take_of_lt hi] at e
    unfold nmOf
    rw [e]
  obtain ⟨c1, c2⟩ := ba c
  obtain ⟨c3, c4⟩ := ba c1
  obtain ⟨c5, c6⟩ := ba c3
  obtain ⟨c7, c8⟩ := ba c4
  obtain ⟨c9, c10⟩ := ba c2
  obtain ⟨c11, c12⟩ := ba c9
  obtain ⟨c13, c14⟩ := ba c10
  obtain ⟨c15, c16⟩ := ba c14
  obtain ⟨c16, c17⟩ := ba c16
  obtain ⟨c18, c19⟩ := ba c17
  have xx : ∀ c, c < P.nx → _ := fun c hc => List.all_eq_true.mp c18 c (List.mem_range.mpr hc)
  refine ⟨⟨nm_inj nd n3, fun i k e => ?_, fun g q e => ?_, fun a k b k' ea eb => ?_, fun a k t ea ht => ?_, fun t ct ht hct => ?_, fun a k ct ea hct => ?_, fun g n ks fl hf => ?_, fun x hx => ?_, fun a g hm => ?_, ?_, fun c hc => excGB_ok (ba (ba (xx c hc)).1).1, fun c c' hc hc' => of_decide_eq_true (List.all_eq_true.mp (ba (ba (xx c hc)).1).2 c' (List.mem_range.mpr hc')), fun c ct hc hct => of_decide_eq_true (List.all_eq_true.mp (ba (xx c hc)).2 ct (ctAll_mem hct)), fun g c hg => ?_, ?_⟩, ⟨fun f k e hi => ?_, fun f k e => ?_, fun k N p b sc h => lamC_ok h⟩⟩
  · have z := idxB_ok c5 e
    rw [Nat.zero_add] at z
    refine clsB_ok ?_ z
    show (match P.cls[i]? with | some k => k.fields.map (nmOf T.nm) | none => []) = _
    rw [e]
    rfl
  · have z := idxB_ok c6 e
    rw [Nat.zero_add] at z
    exact gloB2_ok X N z
  · have z := idxB_ok c7 ea
    have z2 := idxB_ok (ba z).1 eb
    rw [Nat.zero_add, Nat.zero_add] at z2
    exact z2
  · have z := idxB_ok c7 ea
    have z2 := List.all_eq_true.mp (ba z).2 t ht
    rw [Nat.zero_add] at z2
    exact z2
  · have z := List.all_eq_true.mp c8 ct (ctAll_mem hct)
    exact of_decide_eq_true (List.all_eq_true.mp (ba z).1 t ht)
  · have z := List.all_eq_true.mp c8 ct (ctAll_mem hct)
    have z2 := idxB_ok (ba z).2 ea
    rw [Nat.zero_add] at z2
    exact of_decide_eq_true z2
  · unfold Pg.fill at hf
    cases ef : P.shp.find? (fun q => q.1 == g && (q.2.1 == n && q.2.2.1 == ks)) with
    | none => rw [ef] at hf; cases hf
    | some q =>
      rw [ef] at hf
      have hq := List.find?_some ef
      have hm := List.mem_of_find?_eq_some ef
      obtain ⟨q1, q2⟩ := ba hq
      obtain ⟨q3, q4⟩ := ba q2
      have r1 : q.1 = g := by simpa using q1
      have r2 : q.2.1 = n := by simpa using q3
      have r3 : q.2.2.1 = ks := by simpa using q4
      have r4 : q.2.2.2 = fl := by simpa using hf
      have z := List.all_eq_true.mp c11 q hm
      unfold ShpOk
      rw [r1] at z
      cases eg : P.glo[g]? with
      | none => trivial
      | some u =>
        rw [eg] at z
        rw [r2, r3, r4] at z
        cases u with
        | fn f => exact shpFB_ok (nb (ba z).1) (ba z).2
        | cls d =>
          intro k ek
          simp only at z
          rw [ek] at z
          exact shpCB_ok (nb (ba z).1) (ba z).2
        | _ => trivial
  · exact PySem.W.mg_none_of X N (He.eqO_ok (List.all_eq_true.mp c12 x hx))
  · obtain ⟨k, ek, el⟩ := Pg.meth_at hm
    have z := List.all_eq_true.mp c13 k (List.mem_of_getElem? ek)
    rw [el] at z
    exact z
  · cases e : K.lookup sysModules with
    | none => rw [e] at c15; cases c15
    | some o =>
      rw [e] at c15
      exact ⟨o, e, of_decide_eq_true c15⟩
  · have z := List.all_eq_true.mp c19 _ (List.mem_of_getElem? hg)
    exact of_decide_eq_true z
  · exact ⟨at_ 0 _ (by decide) rfl, at_ 1 _ (by decide) rfl, at_ 2 _ (by decide) rfl, at_ 3 _ (by decide) rfl, at_ 4 _ (by decide) rfl, at_ 5 _ (by decide) rfl, at_ 6 _ (by decide) rfl, at_ 7 _ (by decide) rfl, at_ 8 _ (by decide) rfl, at_ 9 _ (by decide) rfl, at_ 10 _ (by decide) rfl, at_ 11 _ (by decide) rfl⟩
  · have z := idxB_ok c16 e
    rw [Nat.zero_add] at z
    have hm : decide (k.mode = 4) = false := by
      have : (match P.fns[f]? with | some k => decide (k.mode = 4) | none => false) = false := hi
      rw [e] at this
      exact this
    rw [hm] at z
    exact funB_ok z
  · have z := idxB_ok c16 e
    rw [Nat.zero_add] at z
    cases hm : decide (k.mode = 4) with
    | true =>
      rw [hm] at z
      have z : funL T f k = true := z
      unfold funL at z
      show (match T.fs[f]? with | some q => q.2.1 | none => []).length = k.np
      cases e1 : T.fs[f]? with
      | none => rw [e1] at z; cases z
      | some q => rw [e1] at z; exact of_decide_eq_true z
    | false =>
      rw [hm] at z
      obtain ⟨_, _, _, _, _, _, _, _, _, _, _, _, _, _, _, _, _, _, _, _, _, q, _⟩ := (funB_ok z).ex
      exact q
end Tn

set_option Elab.async false
set_option linter.all false
set_option maxRecDepth 100000
set_option maxHeartbeats 1000000
namespace Tn
open PySem PySem.Spec PyProof.Rows L2

/-! ### the law's call at the end of the top -/
section
variable {Pr : Program} {w : World} {K : PySem.W.Frag} {mg mb : Str → Option Value} {k : Nat} {fa a : Addr} {fd : FuncData} {x : Str} {sp : Sp} {s : Shared} {vs : List Value} {ns : List Int} {cs : List (Addr × Addr)}
/-- the script's list, as it was handed in -/
abbrev scrO (vs : List Value) : Obj := { cls := .type "list", data := .seq vs.toArray }
abbrev tabO : Obj := { cls := .none, data := .fields #[] }
/-- nothing is tracked but a script that the written part does not hold, and the tables -/
def only (K : PySem.W.Frag) (a : Addr) (vs : List Value) (ns : List Int) (cs : List (Addr × Addr)) : Hp := fun b => if b = a ∧ K.lookup a = none then some (.frz (scrO vs) (.lst (ns.map V.int))) else if b ∈ cs.map (·.2) then some (.tbl #[]) else none
theorem only_some {b : Addr} {u : HO} (h : only K a vs ns cs b = some u) : (b = a ∧ K.lookup a = none ∧ u = .frz (scrO vs) (.lst (ns.map V.int))) ∨ (b ∈ cs.map (·.2) ∧ u = .tbl #[]) := by
  unfold only at h
  by_cases c : b = a ∧ K.lookup a = none
  · rw [if_pos c] at h
    exact .inl ⟨c.1, c.2, (Option.some.inj h).symm⟩
  · rw [if_neg c] at h
    by_cases d : b ∈ cs.map (·.2)
    · rw [if_pos d] at h
      exact .inr ⟨d, (Option.some.inj h).symm⟩
    · rw [if_neg d] at h
      cases h
theorem run_law (KX : K.In s.heap) (hns : s.heap.Ns mainGlobals mg) (hb : s.heap.Ns builtinsNs mb) (hbb : ∀ y : Str, y ≠ "__name__" → mb y = bootBuiltins y) (hlim : s.heap.NoLimit) (hg : s.gens = #[]) (ha : s.heap.get? a = some (scrO vs)) (hi : IntsAre vs ns) (hl : ns.length ≤ sizeLine)
    (hT : ∀ p ∈ cs, s.heap.get? p.2 = some tabO) (nT : ∀ p ∈ cs, K.lookup p.2 = none) (cd : ∀ p ∈ cs, PySem.W.CodeHd s.heap p.1 p.2)
    (hbm : ∃ (bm : Addr) (ob : Obj), mg "__builtins__" = some (.ref bm) ∧ bm ≠ builtinsNs ∧ s.heap.get? bm = some ob ∧ ob.cls = .type "module" ∧ ob.dict = some builtinsNs ∧ ob.data = .plain)
    (hr : Room k callerA) (F : ∀ base : Heap, (∀ p ∈ cs, LamX.TabB base mg p.1 p.2) → FnG Pr w K mg base k fa fd [x] sp) (hbind : BindsTo s fd ⟨[.ref a], []⟩ [(x, .ref a)]) (hsp : ∀ H : Hp, (∀ p ∈ cs, H p.2 = some (.tbl #[])) → SqF K H a (ns.map V.int) → sp [.ref a] H (fun v _ => v = .bl true) fun _ _ _ => False) :
    codeAny (model Pr w) callerA (.call (.ref fa) ⟨[.ref a], []⟩) (fun r s' => r = .ok (.ret (.bool true)) ∧ OldK s.heap s'.heap ∧ s'.os = s.os ∧ AllBare s'.gens) s := by
  have rv := vals_ints hi
  have isT : ∀ b ∈ cs.map (·.2), s.heap.get? b = some tabO := fun b hb => by
    obtain ⟨p, hp, rfl⟩ := List.mem_map.mp hb
    exact hT p hp
  have atT : ∀ p ∈ cs, only K a vs ns cs p.2 = some (.tbl #[]) := fun p hp => by
    have ne : ¬(p.2 = a ∧ K.lookup a = none) := fun z => by
      have q := hT p hp
      rw [z.1, ha] at q
      exact absurd (congrArg Obj.data (Option.some.inj q)) (fun z => by cases z)
    unfold only
    rw [if_neg ne, if_pos (List.mem_map_of_mem hp)]
  have sq : SqF K (only K a vs ns cs) a (ns.map V.int) := by
    cases e : K.lookup a with
    | none => exact .inl ⟨scrO vs, by unfold only; rw [if_pos ⟨rfl, e⟩]⟩
    | some o =>
      have e2 := KX a o e
      rw [ha] at e2
      cases e2
      exact .inr ⟨_, vs.toArray, _, e, rfl, rfl, rfl, by rw [List.size_toArray, hi.length]; exact hl, by simpa using rv⟩
  have hok : HOk Pr w (only K a vs ns cs) s.heap := fun b u z => by
    rcases only_some z with ⟨z1, _, z3⟩ | ⟨z1, z3⟩
    · subst z1
      subst z3
      exact ⟨ha, by rw [List.length_map]; exact hl, vs, _, rv, ha⟩
    · subst z3
      exact isT b z1
  -- what is no list and no table stands in the ground
  have low : ∀ {b : Addr} {o : Obj}, s.heap.get? b = some o → o ≠ scrO vs → o ≠ tabO → only K a vs ns cs b = none := fun {b o} e hne hnt => by
    cases q : only K a vs ns cs b with
    | none => rfl
    | some u =>
      rcases only_some q with ⟨q1, _⟩ | ⟨q1, _⟩
      · subst q1
        rw [ha] at e
        exact absurd (Option.some.inj e).symm hne
      · rw [isT b q1] at e
        exact absurd (Option.some.inj e).symm hnt
  have ns2 : ∀ {b : Addr} {m : Str → Option Value}, s.heap.Ns b m → (hidT s.heap (only K a vs ns cs)).Ns b m := fun {b m} h => by
    obtain ⟨o, es, ep, h1, h2, h3⟩ := h
    refine ⟨o, es, ep, hidT_get h1 (low h1 (fun z => ?_) fun z => ?_), h2, h3⟩ <;> rw [z] at h2 <;> cases h2
  have kin : K.In (hidT s.heap (only K a vs ns cs)) := fun b o e => hidT_get (KX b o e) (by
    cases q : only K a vs ns cs b with
    | none => rfl
    | some u =>
      rcases only_some q with ⟨q1, q2, _⟩ | ⟨q1, _⟩
      · rw [q1, q2] at e
        cases e
      · obtain ⟨p, hp, rfl⟩ := List.mem_map.mp q1
        rw [nT p hp] at e
        cases e)
  have hM : Mod K mg (hidT s.heap (only K a vs ns cs)) := by
    refine ⟨kin, ns2 hns, ⟨mb, ns2 hb, hbb⟩, ?_⟩
    obtain ⟨mc, q1, q2⟩ := hlim
    exact ⟨mc, ns2 q1, q2⟩
  have e0 : Env0 Pr w K mg (hidT s.heap (only K a vs ns cs)) callerA [] s (only K a vs ns cs) :=
    ⟨rfl, hM, fun b o e => of_hidT e, Nat.le_of_eq (hidT_size _ _), trivial, (fun b hb => nomatch hb), hok, AllBare.of_eq hg⟩
  have TB : ∀ p ∈ cs, LamX.TabB (hidT s.heap (only K a vs ns cs)) mg p.1 p.2 := fun p hp => by
    have here := hT p hp
    refine ⟨?_, ?_, fun z => ?_⟩
    · obtain ⟨o, us, file, tf, flags, tg, inF, text, tt, e1, r1, r2, r3⟩ := cd p hp
      refine ⟨o, us, file, tf, flags, tg, inF, text, tt, hidT_get e1 (low e1 (fun z => ?_) fun z => ?_), r1, r2, r3⟩ <;> rw [z] at r1
      · exact absurd (show Value.type "list" = Value.type "code" from r1) (by decide)
      · exact absurd (show Value.none = Value.type "code" from r1) (by decide)
    · obtain ⟨bm, ob, b1, b2, b3, b4, b5, b6⟩ := hbm
      have nG : bm ≠ mainGlobals := fun q => by
        obtain ⟨o, es, ep, e, hd, _⟩ := hns
        rw [q, e] at b3
        cases b3
        rw [hd] at b6
        cases b6
      have nP : bm ≠ p.2 := fun q => by
        rw [q, here] at b3
        cases b3
        cases b4
      refine ⟨bm, ob, b1, b2, nG, nP, hidT_get b3 (low b3 (fun z => ?_) fun z => ?_), b4, b5, b6⟩ <;> rw [z] at b6 <;> cases b6
    · obtain ⟨o, es, ep, e, hd, _⟩ := hns
      rw [z, here] at e
      cases e
      cases hd
  refine codeAny_mono ((F _ TB).run callerA [] s (only K a vs ns cs) ⟨[.ref a], []⟩ [.ref a] [.ref a] _ _ hr rfl e0 hbind (.cons rfl .nil) (hsp _ atT sq)) fun r s' h => ?_
  cases r with
  | error e => exact (noerr (X := ⟨Pr, w, K, mg, s.heap, callerA, [], s, only K a vs ns cs, default, [], [], [], fun _ => true, true, [], fun _ _ => True⟩) (r := .error e) h).elim
  | ok fl =>
    cases fl with
    | ret u =>
      obtain ⟨v, H', os, bare, un, hok2, rr, q⟩ := h
      have q2 : v = .bl true := q
      subst q2
      cases (show u = Value.bool true from rr)
      have grown : ∀ p ∈ cs, ∃ more : Array Value, s'.heap.get? p.2 = some { cls := .none, data := .fields more } := fun p hp => by
        obtain ⟨more, z⟩ := un.tbls p.2 #[] (atT p hp)
        exact ⟨_, hok2 p.2 _ z⟩
      have same : ∀ b o, b ∉ cs.map (·.2) → s.heap.get? b = some o → s'.heap.get? b = some o := fun b o nb e => by
        cases q3 : only K a vs ns cs b with
        | none => exact un.keep b o e q3 (fun z => by cases z) (fun z => by cases z)
        | some u =>
          rcases only_some q3 with ⟨z1, z2, z3⟩ | ⟨z1, _⟩
          · subst z3
            have z4 := (hok2 b _ (un.frzs b _ _ q3)).1
            rw [z1, ha] at e
            cases e
            exact z4
          · exact absurd z1 nb
      refine ⟨rfl, ⟨fun b o e => ?_, fun b o e => ?_⟩, os, bare⟩
      · by_cases hb2 : b ∈ cs.map (·.2)
        · obtain ⟨p, hp, rfl⟩ := List.mem_map.mp hb2
          obtain ⟨more, hm⟩ := grown p hp
          rw [hT p hp] at e
          cases e
          exact .inr (.inl ⟨((cd p hp).tab (hT p hp)).isCodeTable, rfl, #[], more, rfl, by rw [Array.empty_append]; exact hm⟩)
        · exact .inl (same b o hb2 e)
      · by_cases hb2 : b ∈ cs.map (·.2)
        · obtain ⟨p, hp, rfl⟩ := List.mem_map.mp hb2
          obtain ⟨more, hm⟩ := grown p hp
          exact ⟨_, hm⟩
        · exact ⟨o, same b o hb2 e⟩
    | next => exact h.elim
    | brk => exact h.elim
    | cont => exact h.elim
end

/-! ### the hook -/
def tabsOf (T : Mt) (K : PySem.W.Frag) : List Addr := T.mks.filterMap fun f => (tabF T K f).map (·.2)
def asM (T : Mt) (g : Addr → Option Obj) (as : List Addr) : List Addr := bif T.mks.isEmpty then as else as.filter fun b => !(tabsOf T (He.frG g as)).contains b
def fragM (T : Mt) (g : Addr → Option Obj) (n : Nat) : PySem.W.Frag := He.frG g (asM T g (sysModules :: cStatics :: He.asD g n))
def emptyT : Option Obj → Bool
  | some ⟨.none, none, .fields vs, sl⟩ => vs.isEmpty && sl.isEmpty
  | _ => false
theorem emptyT_ok {o : Option Obj} (h : emptyT o = true) : o = some tabO := by
  unfold emptyT at h
  split at h
  · rename_i vs sl
    obtain ⟨h1, h2⟩ := ba h
    rw [show vs = #[] by simpa using h1, show sl = #[] by simpa using h2]
  · cases h
def codeB (K : PySem.W.Frag) (c p : Addr) : Bool := match K.lookup c with
  | some ⟨.type "code", _, .fields vs, _⟩ => ((match (vs[11]? : Option Value) with | some (.ref q) => decide (q = p) | _ => false) && (match vs.getD 18 .none, vs.getD 7 .none, vs.getD 9 .none, vs.getD 10 .none with
    | .str _ _, .int _ _, .bool _, .int _ _ => true
    | _, _, _, _ => false)) && decide (c ≠ p)
  | _ => false
theorem codeB_ok {K : PySem.W.Frag} {h : Heap} {c p : Addr} (X : K.In h) (z : codeB K c p = true) : PySem.W.CodeHd h c p := by
  unfold codeB at z
  split at z
  · rename_i od vs sl e1
    obtain ⟨h1, h2⟩ := ba z
    obtain ⟨h3, h4⟩ := ba h1
    split at h3
    · rename_i q e2
      have e3 := of_decide_eq_true h3
      subst e3
      split at h4
      · rename_i f1 f2 f3 f4 f5 f6 f7 g1 g2 g3 g4
        refine ⟨_, vs, f1, f2, f3, f4, f5, f6, f7, X _ _ e1, rfl, rfl, e2, ?_, g1, g2, g3, g4, of_decide_eq_true h2⟩
        rw [Array.getD_eq_getD_getElem?, e2]
        rfl
      · cases h4
    · cases h3
  · cases z
def tabOkB (T : Mt) (K : PySem.W.Frag) (g : Addr → Option Obj) : Bool := T.mks.all fun f => match tabF T K f with
  | some (c, p) => (K.lookup p).isNone && (emptyT (g p) && codeB K c p)
  | none => false
def hookM (T : Mt) (P : Pg) (n : Nat) : PySem.W.Hook where
  α := Bool
  obs := fun s => goodB T P (fragM T s.heap.get? n) && tabOkB T (fragM T s.heap.get? n) s.heap.get?
  val := fun _ => true
  says := fun _ h => ∃ K : PySem.W.Frag, K.In h ∧ goodB T P K = true ∧ tabOkB T K h.get? = true
  of := fun _ _ e => ⟨_, He.frG_in, (ba e).1, (ba e).2⟩
  keeps := fun _ h h' ⟨K, hK, c, d⟩ q => ⟨K, PySem.W.Frag.In.keeps hK q, c, by
    unfold tabOkB at d ⊢
    rw [List.all_eq_true] at d ⊢
    intro f hf
    have z := d f hf
    cases e : tabF T K f with
    | none => rw [e] at z; cases z
    | some p =>
      obtain ⟨c1, p1⟩ := p
      rw [e] at z
      obtain ⟨z1, z2⟩ := ba z
      obtain ⟨z3, z4⟩ := ba z2
      have z5 := emptyT_ok z3
      show ((K.lookup p1).isNone && (emptyT (h'.get? p1) && codeB K c1 p1)) = true
      rw [z1, z4, q p1 _ z5]
      rfl⟩
def obM (T : Mt) (P : Pg) (n : Nat) (s : PySem.W.SharedT) : Bool := goodB T P (fragM T (HandSHeadRun.getT s) n) && tabOkB T (fragM T (HandSHeadRun.getT s) n) (HandSHeadRun.getT s)
theorem obM_eq (T : Mt) (P : Pg) (n : Nat) (s : PySem.W.SharedT) : obM T P n s = (hookM T P n).obs s.abs := by
  have e : HandSHeadRun.getT s = s.abs.heap.get? := funext (HandSHeadRun.getT_eq s)
  unfold obM
  rw [e]
  rfl
/-- the law's promise, from the plain run -/
theorem law_end {l : PySem.W.OpenLaw} {T : Mt} {P : Pg} {n nn k fl gl : Nat} {q : Program} {loose : List Str} {XP : (Str → Option Value) → Heap → Prop} {d : DefRec} {x : Str} (hn : l.most = some n) (hn2 : n ≤ sizeLine) (hdf : d.params.defaults = []) (hr : Room k callerA) (hnm : namesB T = true)
    (hgl : P.glo[gl]? = some (.fn fl)) (hgn : nmOf T.gn gl = d.name) (hps : (match T.fs[fl]? with | some q => q.2.1 | none => []) = [x]) (hsh : P.fill gl 1 [] = some [.inl 0]) (pf : (l.prog.main.file : Str) = T.file ∧ (l.prog.main.scope.names.lookup ("super" : Str)).isSome = false) (run : ∀ ns : List Int, ns.length ≤ n → ∃ m, (lev P k).hi fl [.d (.scr ns)] [] = .ok (.d (.bl true)) m) :
    PySem.W.WalkO q loose XP (hookM T P nn).says l.row.toRowW d [] (fun f vs => PySem.call f vs) := by
  refine Att.attach_call hn hdf fun w s0 s1 mg mb fa o pm cd doc a vs ns G Y ho hd hcd hmg hobj hints hlen hg => ?_
  obtain ⟨K, KX, c, tk⟩ := Y
  obtain ⟨gp, tb⟩ := goodB_ok KX G.T.g hnm c
  have hF := gp.glo gl _ hgl
  have e1 : mg d.name = some (.ref ((mkG T P K).fa fl)) := by
    rw [← hgn]
    exact hF.1
  rw [hmg] at e1
  cases e1
  have hps2 : (mkG T P K).ps fl = [x] := hps
  have sh := gp.shp gl 1 [] _ hsh
  unfold ShpOk at sh
  rw [hgl] at sh
  obtain ⟨il, fu, fr, bd⟩ := sh
  have hb : BindsTo s1 ((mkG T P K).fd fl) ⟨[.ref a], []⟩ [(x, .ref a)] := by
    have z := bd s1 [.ref a] [] KX rfl rfl
    rw [hps2] at z
    match fu, fr, z with
    | [.inl 0], _, z => exact z
    | [.inl (j + 1)], fr, _ => cases fr.1
    | [.inr _], fr, _ => exact fr.elim
    | [], fr, _ => exact fr.elim
    | .inl _ :: .inl _ :: _, fr, _ => exact False.elim fr.2
    | .inl _ :: .inr _ :: _, fr, _ => exact False.elim fr.2
    | .inr _ :: _ :: _, fr, _ => exact fr.elim
  obtain ⟨m, hm⟩ := run ns hlen
  have each : ∀ p ∈ T.mks.filterMap fun f => tabF T K f, s1.heap.get? p.2 = some tabO ∧ K.lookup p.2 = none ∧ PySem.W.CodeHd s1.heap p.1 p.2 := fun p hp => by
    obtain ⟨f, hf, e⟩ := List.mem_filterMap.mp hp
    have z := List.all_eq_true.mp tk f hf
    rw [e] at z
    obtain ⟨z1, z2⟩ := ba z
    obtain ⟨z3, z4⟩ := ba z2
    exact ⟨emptyT_ok z3, by simpa using z1, codeB_ok KX z4⟩
  refine run_law (cs := T.mks.filterMap fun f => tabF T K f) (sp := spF (mkG T P K) (lev P k).hi fl) KX G.T.g G.T.b G.T.builtins G.T.nolimit hg hobj hints (Nat.le_trans hlen hn2) (fun p hp => (each p hp).1) (fun p hp => (each p hp).2.1) (fun p hp => (each p hp).2.2) G.T.bmain hr (fun base htb => ?_) hb fun H hT sq => ?_
  · have z := (fns_ok (G := mkG T P K) (Pr := l.prog) (w := w) (mg := mg) (base := base) gp tb pf (fun f c tab e => htb (c, tab) (by
      have e : tabF T K f = some (c, tab) := e
      unfold tabF at e
      cases em : T.mks.contains f with
      | false => rw [em] at e; cases e
      | true => exact List.mem_filterMap.mpr ⟨f, by simpa using em, by unfold tabF; exact e⟩)) k).1 fl
    rw [hps2] at z
    exact z
  · refine ⟨il, by rw [hps2]; rfl, [], [.d (.scr ns)], [], ⟨List.nodup_nil, rfl, fun i a o h => by simp at h, fun p hp => ?_⟩, ⟨Den.scr sq, trivial⟩, ?_⟩
    · obtain ⟨f, hf, e⟩ := List.mem_filterMap.mp hp
      cases et : tabF T K f with
      | none => rw [et] at e; cases e
      | some q =>
        rw [et] at e
        cases e
        exact LamX.TabS.nil (hT q (List.mem_filterMap.mpr ⟨f, hf, et⟩))
    · rw [hm]
      intro v ι' H' _ _ dv
      cases dv
      rfl
end Tn

set_option Elab.async false
set_option linter.all false
set_option maxRecDepth 100000
set_option maxHeartbeats 1000000
namespace Tn
open PySem PySem.Spec PyProof.Rows L2
/-! ### numbers as texts -/
abbrev nTx (i : Int) : Str := Str.ofString (toString i)
theorem tl_nTx (i : Int) : TL.tl (nTx i) = if i < 0 then 45 :: TL.numL i.natAbs else TL.numL i.natAbs := by
  by_cases h : i < 0
  · rw [if_pos h]
    have e : (0 - i) = ((i.natAbs : Nat) : Int) := by omega
    show TL.tl (Str.ofString (toString i)) = _
    rw [toString_neg h, e, TL.tl_ofString]
    have e2 : ("-" ++ toString ((i.natAbs : Nat) : Int)).toList = '-' :: (toString ((i.natAbs : Nat) : Int)).toList := by simp
    rw [e2, List.map_cons]
    have e3 := TL.tl_num i.natAbs
    rw [TL.tl_ofString] at e3
    rw [e3]
    rfl
  · rw [if_neg h]
    have e : i = ((i.natAbs : Nat) : Int) := by omega
    rw [e]
    exact TL.tl_num i.natAbs
theorem numL_top {n : Nat} (h : 0 < n) : (TL.numL n).head? ≠ some 48 := by
  induction n using Nat.strongRecOn with
  | ind n ih =>
    by_cases hn : n < 10
    · rw [TL.numL_lt hn]
      simp
      omega
    · rw [TL.numL_step (by omega)]
      have := ih (n / 10) (by omega) (by omega)
      have ne := TL.numL_ne (n / 10)
      cases e : TL.numL (n / 10) with
      | nil => exact absurd e ne
      | cons c r =>
        rw [e] at this
        simpa using this
def figs (w : Str) : Str := Txt.removeprefix w (Str.ofString "-")
theorem tl_figs (w : Str) : TL.tl (figs w) = if (TL.tl w).head? = some 45 then (TL.tl w).tail else TL.tl w := by
  have hy : TL.tl (Str.ofString "-") = [45] := by decide
  have hl : (Str.ofString "-").length = 1 := by decide
  have q := TL.at_iff (x := w) (y := Str.ofString "-") (by rw [hy]; simp) 0
  rw [hy] at q
  have hp : TL.pre [45] ((TL.tl w).drop 0) = true ↔ (TL.tl w).head? = some 45 := by
    unfold TL.pre
    cases TL.tl w with
    | nil => simp
    | cons c r => simp
  unfold figs
  rw [StrLaws.removeprefix_eq]
  by_cases h : (TL.tl w).head? = some 45
  · have h2 := q.mpr (hp.mpr h)
    have h3 : (decide (0 + (Str.ofString "-").length ≤ w.length) && Builtin.Str.subAt w (Str.ofString "-") 0) = true := by
      rw [h2.2, decide_eq_true h2.1]
      rfl
    rw [if_pos h3, if_pos h, hl]
    show ((TL.tl w).drop 1).take (w.length - 1) = _
    rw [TL.len_tl, List.drop_one]
    exact List.take_of_length_le (by simp)
  · have h3 : ¬ (decide (0 + (Str.ofString "-").length ≤ w.length) && Builtin.Str.subAt w (Str.ofString "-") 0) = true := fun z => by
      obtain ⟨z1, z2⟩ := Bool.and_eq_true_iff.mp z
      exact h (hp.mp (q.mp ⟨of_decide_eq_true z1, z2⟩))
    rw [if_neg h3, if_neg h]
abbrev figT : Str := Str.ofString "0123456789"
theorem figT_mem (c : Nat) : c ∈ figT.cps.toList ↔ 48 ≤ c ∧ c ≤ 57 := by
  have e : figT.cps.toList = [48, 49, 50, 51, 52, 53, 54, 55, 56, 57] := by decide
  rw [e]
  simp
  omega
def isFig (c : Nat) : Bool := decide (c ∈ figT.cps.toList)
/-- the number that a word writes -/
def numW (w : Str) : Option Int := bif (figs w == Str.ofString "") || !(TL.tl (figs w)).all isFig then none else bif (TL.tl (figs w)).head? == some 48 && w != Str.ofString "0" then none else intText? w
theorem str_ext {x y : Str} : (x == y) = decide (TL.tl x = TL.tl y) := by
  rw [Bool.eq_iff_iff]
  simp only [beq_iff_eq, decide_eq_true_eq]
  exact ⟨fun h => by rw [h], fun h => TL.ext_tl h⟩
theorem fig_text {w : Str} (hl : w.length ≤ 4300) (h1 : TL.tl (figs w) ≠ []) (h2 : ∀ c ∈ TL.tl (figs w), 48 ≤ c ∧ c ≤ 57) : intText? w = some (if (TL.tl w).head? = some 45 then -((NumText.digitsVal (TL.tl (figs w)) : Nat) : Int) else ((NumText.digitsVal (TL.tl (figs w)) : Nat) : Int)) := by
  rw [tl_figs] at h1 h2 ⊢
  by_cases h : (TL.tl w).head? = some 45
  · rw [if_pos h] at h1 h2
    rw [if_pos h, if_pos h]
    have e : w.cps.toList = 45 :: (TL.tl w).tail := by
      cases q : TL.tl w with
      | nil => rw [q] at h; cases h
      | cons c r =>
        rw [q] at h
        have : c = 45 := by simpa using h
        rw [this] at q
        exact q
    exact PySem.intText_neg e h2 h1 hl
  · rw [if_neg h] at h1 h2
    rw [if_neg h, if_neg h]
    exact PySem.intText_digits h2 h1 hl
theorem all_fig {l : List Nat} (h : l.all isFig = true) : ∀ c ∈ l, 48 ≤ c ∧ c ≤ 57 := fun c hc => (figT_mem c).mp (of_decide_eq_true (List.all_eq_true.mp h c hc))
theorem nTx_len {i : Int} (h : i.natAbs < 10 ^ 100) : (nTx i).length ≤ 101 := by
  rw [TL.len_tl, tl_nTx]
  have := TL.numL_len (n := i.natAbs) (k := 100) (by decide) h
  split <;> simp <;> omega
theorem nTx_free {i : Int} {c : Nat} (h1 : c ≠ 45) (h : c < 48 ∨ 57 < c) : c ∉ TL.tl (nTx i) := by
  rw [tl_nTx]
  have := TL.numL_free (n := i.natAbs) h
  split
  · intro z
    rcases List.mem_cons.mp z with z | z
    · exact h1 z
    · exact this z
  · exact this
theorem nTx_cp {i : Int} : ∀ c ∈ TL.tl (nTx i), c < 58 := by
  intro c hc
  rw [tl_nTx] at hc
  have d := TL.numL_digits i.natAbs
  split at hc
  · rcases List.mem_cons.mp hc with z | z
    · omega
    · have := d c z; omega
  · have := d c hc; omega
theorem numW_nTx {i : Int} (h : i.natAbs < 10 ^ 100) : numW (nTx i) = some i := by
  have hl := nTx_len h
  have d := TL.numL_digits i.natAbs
  have ne := TL.numL_ne i.natAbs
  have hf : TL.tl (figs (nTx i)) = TL.numL i.natAbs := by
    rw [tl_figs, tl_nTx]
    by_cases h0 : i < 0
    · simp [h0]
    · rw [if_neg h0]
      have : ¬ (TL.numL i.natAbs).head? = some 45 := fun z => by
        cases e : TL.numL i.natAbs with
        | nil => exact ne e
        | cons c r =>
          rw [e] at z
          have e1 : c = 45 := by simpa using z
          have := d c (by rw [e]; exact List.mem_cons_self)
          omega
      rw [if_neg this]
  have hh : (TL.tl (nTx i)).head? = some 45 ↔ i < 0 := by
    rw [tl_nTx]
    by_cases h0 : i < 0
    · simp [h0]
    · rw [if_neg h0]
      constructor
      · intro z
        cases e : TL.numL i.natAbs with
        | nil => exact absurd e ne
        | cons c r =>
          rw [e] at z
          have e1 : c = 45 := by simpa using z
          have := d c (by rw [e]; exact List.mem_cons_self)
          omega
      · exact fun z => absurd z h0
  have hv := fig_text (w := nTx i) (by omega) (by rw [hf]; exact ne) (by rw [hf]; exact d)
  rw [hf, TL.numL_val] at hv
  have hv2 : intText? (nTx i) = some i := by
    rw [hv]
    by_cases h0 : i < 0
    · rw [if_pos (hh.mpr h0)]
      congr 1
      omega
    · rw [if_neg fun z => h0 (hh.mp z)]
      congr 1
      omega
  unfold numW
  have q1 : (figs (nTx i) == Str.ofString "") = false := by
    rw [str_ext, hf]
    simp [ne, show TL.tl (Str.ofString "") = [] by decide]
  have q2 : (TL.tl (figs (nTx i))).all isFig = true := by
    rw [hf, List.all_eq_true]
    exact fun c hc => decide_eq_true ((figT_mem c).mpr (d c hc))
  have q3 : ((TL.tl (figs (nTx i))).head? == some 48 && nTx i != Str.ofString "0") = false := by
    by_cases h0 : i = 0
    · subst h0
      decide
    · have := numL_top (n := i.natAbs) (by omega)
      rw [hf]
      have e : ((TL.numL i.natAbs).head? == some 48) = false := by simpa using this
      rw [e]
      rfl
  rw [q1, q2, q3]
  exact hv2
end Tn

set_option exponentiation.threshold 3000
set_option maxHeartbeats 1000000
namespace Tn.k02
open PySem PySem.Spec PyProof.Rows L2
/-! the written form of turnedtunes_k02_texts_of_ties (printed by gen.py) -/
def fn0 : Fn := ⟨1, 4, 1, (.cons (.fo (.nm 1) (.seq (.call 1 (.cons (.var 0) (.cons (.cst (.int 4)) .nil)) [] .nil)) (.cons (.asg (.nm 2) (.call 3 (.cons (.var 0) (.cons (.var 1) .nil)) [] .nil)) (.cons (.ite (.not (.blt .all (.cons (.lc (.call 2 (.cons (.var 2) .nil) [] .nil) (.nm 3) (.rng1 (.cst (.int 4))) .no [3]) .nil))) (.cons (.ret (.cst (.bl false))) .nil) .nil) .nil))) (.cons (.ret (.cst (.bl true))) .nil))⟩
def fn1 : Fn := ⟨2, 2, 0, (.cons (.ret (.lrg (.blt .max (.cons (.cst (.int 1)) (.cons (.blt .min (.cons (.var 1) (.cons (.blt .len (.cons (.var 0) .nil)) .nil))) .nil))))) .nil)⟩
def fn2 : Fn := ⟨2, 5, 2, (.cons (.asg (.nm 2) (.ite (.cmp .Lt (.var 1) (.blt .len (.cons (.var 0) .nil))) (.sub (.var 0) (.var 1)) (.bin .Add (.bin .Mult (.cst (.int 43)) (.var 1)) (.cst (.int 17))))) (.cons (.asg (.nm 3) (.bin .Mult (.bin .Mod (.blt .int (.cons (.blt .abs (.cons (.var 2) .nil)) .nil)) (.bin .Pow (.bin .Pow (.cst (.int 10)) (.cst (.int 60))) (.cst (.int 5)))) (.blt .int (.cons (.cmp .GtE (.blt .abs (.cons (.var 2) .nil)) (.bin .Pow (.cst (.int 10)) (.cst (.int 18)))) .nil)))) (.cons (.asg (.nm 4) (.bin .Mod (.blt .int (.cons (.var 2) .nil)) (.cst (.int 2305843009213693951)))) (.cons (.rnw (.cons (.var 3) (.cons (.bin .Mod (.blt .int (.cons (.bin .Add (.bin .Add (.bin .Mult (.var 4) (.cst (.int 71023))) (.bin .Mult (.bin .Mult (.cst (.int 6397)) (.var 1)) (.var 1))) (.cst (.int 79))) .nil)) (.cst (.int 2305843009213693921))) (.cons (.cst (.int 0)) .nil)))) .nil))))⟩
def fn3 : Fn := ⟨1, 8, 1, (.cons (.asg (.nm 1) (.call 13 (.cons (.var 0) (.cons (.call 12 (.cons (.var 0) (.cons (.lst (.cons (.cst (.int 1)) (.cons (.cst (.int 3)) (.cons (.cst (.int 30)) (.cons (.cst (.int 200)) .nil))))) .nil)) [] .nil) .nil)) [] .nil)) (.cons (.asg (.nm 2) (.call 12 (.cons (.var 0) (.cons (.lst (.cons (.cst (.int 0)) (.cons (.cst (.int 0)) (.cons (.bin .Sub (.bin .Sub (.bin .Pow (.cst (.int 10)) (.cst (.int 30))) (.blt .max (.cons (.slc (.var 1) .no (.yes (.cst (.int 2)))) .nil))) (.sub (.var 1) (.cst (.int 2)))) (.cons (.bin .Pow (.cst (.int 10)) (.cst (.int 12))) .nil))))) .nil)) [] .nil)) (.cons (.par [3, 1] (.cons (.call 10 (.cons (.call 11 (.cons (.var 1) (.cons (.blt .min (.cons (.lst (.cons (.var 2) (.cons (.bin .Pow (.cst (.int 10)) (.cst (.int 12))) .nil))) .nil)) .nil)) [] .nil) .nil) [] .nil) (.cons (.call 11 (.cons (.var 1) (.cons (.var 2) .nil)) [] .nil) .nil))) (.cons (.asg (.nm 4) (.call 10 (.cons (.var 1) .nil) [] .nil)) (.cons (.ite (.or (.cons (.cmp .NotEq (.blt .repr (.cons (.atr (.call 9 (.cons (.var 1) .nil) [] .nil) 13) .nil)) (.blt .repr (.cons (.var 4) .nil))) (.cons (.not (.cmp .Eq (.smc 8 12 (.cons (.var 4) .nil)) (.call 9 (.cons (.var 1) .nil) [] .nil))) .nil))) (.cons (.ret (.cst (.bl false))) .nil) .nil) (.cons (.fo (.nm 5) (.rng1 (.cst (.int 12))) (.cons (.asg (.nm 6) (.call 7 (.cons (.var 0) (.cons (.var 3) .nil)) [] .nil)) (.cons (.asg (.nm 6) (.ite (.cmp .Gt (.var 5) (.cst (.int 8))) (.call 7 (.cons (.var 0) (.cons (.var 6) .nil)) [] .nil) (.var 6))) (.cons (.ite (.and (.cons (.call 6 (.cons (.var 6) .nil) [] .nil) (.cons (.not (.call 4 (.cons (.var 6) .nil) [] .nil)) .nil))) (.cons (.ret (.cst (.bl false))) .nil) .nil) .nil)))) (.cons (.new 7 (.cons (.var 4) (.cons (.bin .Add (.var 4) (.cst (.str (Str.ofString " back")))) (.cons (.bin .Add (.var 4) (.cst (.str (Str.ofString "\n")))) (.cons (.bin .Add (.cst (.str (Str.ofString " "))) (.var 4)) (.cons (.cst (.str (Str.ofString ""))) (.cons (.cst (.str (Str.ofString "0 0 1 up 0 back"))) (.cons (.cst (.str (Str.ofString "0 0 1 up -0"))) (.cons (.cst (.str (Str.ofString "0 0 1 up +1"))) .nil))))))))) (.cons (.ext (.var 7) (.lst (.cons (.cst (.str (Str.ofString "0 00 1 up 0"))) (.cons (.cst (.str (Str.ofString "0 0 0 up 0"))) (.cons (.cst (.str (Str.ofString "-1 0 1 up 0"))) (.cons (.bin .Add (.bin .Add (.cst (.str (Str.ofString "0 0 "))) (.blt .str (.cons (.bin .Pow (.cst (.int 10)) (.cst (.int 30))) .nil))) (.cst (.str (Str.ofString " up 0")))) (.cons (.tup (.cons (.var 4) .nil)) .nil))))))) (.cons (.app (.var 7) (.bin .Add (.bin .Add (.cst (.str (Str.ofString "1 0 "))) (.blt .str (.cons (.bin .Pow (.cst (.int 10)) (.cst (.int 30))) .nil))) (.cst (.str (Str.ofString " up 0"))))) (.cons (.ret (.blt .all (.cons (.lc (.call 4 (.cons (.var 6) .nil) [] .nil) (.nm 6) (.seq (.bin .Add (.var 7) (.lst (.cons (.call 5 (.cons (.var 0) .nil) [] .nil) (.cons (.cst .non) (.cons (.cst (.int 0)) (.cons (.lst (.cons (.var 4) .nil)) (.cons (.sm .upp (.var 4) .nil) .nil)))))))) .no [6]) .nil))) .nil))))))))))⟩
def fn4 : Fn := ⟨2, 7, 0, (.cons (.par [2, 3] (.cons (.sm .split (.var 1) (.cons (.cst (.str (Str.ofString " "))) .nil)) (.cons (.call 14 (.cons (.var 0) (.cons (.cst (.int 7)) .nil)) [] .nil) .nil))) (.cons (.par [4, 5] (.cons (.call 14 (.cons (.var 0) (.cons (.blt .len (.cons (.var 2) .nil)) .nil)) [] .nil) (.cons (.call 14 (.cons (.var 0) (.cons (.bin .Add (.blt .len (.cons (.var 1) .nil)) (.cst (.int 1))) .nil)) [] .nil) .nil))) (.cons (.asg (.nm 6) (.call 12 (.cons (.var 0) (.cons (.lst (.cons (.cst (.str (Str.ofString "0"))) (.cons (.cst (.str (Str.ofString "1"))) (.cons (.cst (.str (Str.ofString "9"))) (.cons (.cst (.str (Str.ofString "-"))) (.cons (.cst (.str (Str.ofString " "))) (.cons (.cst (.str (Str.ofString "a"))) (.cons (.cst (.str (Str.ofString "+"))) (.cons (.cst (.str (Str.ofString "_"))) (.cons (.cst (.str (Str.ofString "up"))) (.cons (.cst (.str (Str.ofString "back"))) (.cons (.cst (.str (Str.ofString "A"))) .nil)))))))))))) .nil)) [] .nil)) (.cons (.ite (.cmp .Eq (.var 3) (.cst (.int 0))) (.cons (.ret (.sm .join (.cst (.str (Str.ofString " "))) (.cons (.bin .Add (.slc (.var 2) .no (.yes (.var 4))) (.slc (.var 2) (.yes (.bin .Add (.var 4) (.cst (.int 1)))) .no)) .nil))) .nil) .nil) (.cons (.ite (.cmp .Eq (.var 3) (.cst (.int 1))) (.cons (.ret (.sm .join (.cst (.str (Str.ofString " "))) (.cons (.bin .Add (.bin .Add (.slc (.var 2) .no (.yes (.var 4))) (.lst (.cons (.sub (.var 2) (.var 4)) .nil))) (.slc (.var 2) (.yes (.var 4)) .no)) .nil))) .nil) .nil) (.cons (.ite (.cmp .Eq (.var 3) (.cst (.int 2))) (.cons (.ret (.sm .join (.cst (.str (Str.ofString " "))) (.cons (.bin .Add (.bin .Add (.slc (.var 2) .no (.yes (.var 4))) (.lst (.cons (.var 6) .nil))) (.slc (.var 2) (.yes (.bin .Add (.var 4) (.cst (.int 1)))) .no)) .nil))) .nil) .nil) (.cons (.ite (.cmp .Lt (.var 3) (.cst (.int 5))) (.cons (.ret (.bin .Add (.bin .Add (.slc (.var 1) .no (.yes (.var 5))) (.var 6)) (.slc (.var 1) (.yes (.bin .Add (.var 5) (.blt .int (.cons (.cmp .Eq (.var 3) (.cst (.int 4))) .nil)))) .no))) .nil) .nil) (.cons (.ret (.ite (.cmp .Eq (.var 3) (.cst (.int 5))) (.bin .Add (.slc (.var 1) .no (.yes (.var 5))) (.slc (.var 1) (.yes (.bin .Add (.var 5) (.cst (.int 1)))) .no)) (.bin .Add (.var 1) (.call 12 (.cons (.var 0) (.cons (.lst (.cons (.cst (.str (Str.ofString " back"))) (.cons (.cst (.str (Str.ofString " "))) (.cons (.cst (.str (Str.ofString " 0"))) (.cons (.cst (.str (Str.ofString " up"))) .nil))))) .nil)) [] .nil)))) .nil))))))))⟩
def fn5 : Fn := ⟨2, 2, 0, (.cons (.ret (.bin .Add (.tup (.cons (.bin .Add (.sub (.var 0) (.cst (.int 0))) (.var 1)) (.cons (.bin .Add (.sub (.var 0) (.cst (.int 1))) (.var 1)) .nil))) (.slc (.var 0) (.yes (.cst (.int 2))) .no))) .nil)⟩
def fn6 : Fn := ⟨1, 3, 0, (.cons (.par [1, 2] (.cons (.clam 18 34 [0] .nil) (.cons (.call 17 (.cons (.var 0) .nil) [] .nil) .nil))) (.cons (.ite (.cmp .Is (.var 2) (.cst .non)) (.cons (.ret (.and (.cons (.isi (.var 1) (.exc 5) 16) (.cons (.cmp .Eq (.blt .repr (.cons (.atr (.var 1) 11) .nil)) (.blt .repr (.cons (.var 0) .nil))) .nil)))) .nil) .nil) (.cons (.ret (.and (.cons (.cmp .Is (.var 1) (.cst .non)) (.cons (.cmp .Eq (.blt .repr (.cons (.call 15 (.cons (.smc 8 12 (.cons (.var 0) .nil)) .nil) [] .nil) .nil)) (.blt .repr (.cons (.var 2) .nil))) .nil)))) .nil)))⟩
def fn7 : Fn := ⟨1, 2, 0, (.cons (.ret (.blt .all (.cons (.lc (.cmp .Lt (.blt .len (.cons (.var 1) .nil)) (.cst (.int 41))) (.nm 1) (.seq (.sm .split (.sm .rpl (.var 0) (.cons (.cst (.str (Str.ofString "\n"))) (.cons (.cst (.str (Str.ofString " "))) .nil))) (.cons (.cst (.str (Str.ofString " "))) .nil))) .no [1]) .nil))) .nil)⟩
def fn8 : Fn := ⟨1, 2, 0, (.cons (.asg (.nm 1) (.lst (.cons (.cst .non) (.cons (.cst (.bl true)) (.cons (.cst (.bl false)) (.cons (.neg (.cst (.int 1))) (.cons (.cst (.str (Str.ofString ""))) (.cons (.cst (.str (Str.ofString "0"))) (.cons (.cst (.str (Str.ofString "up"))) (.cons (.cst (.str (Str.ofString "back"))) (.cons (.tup .nil) (.cons (.lst .nil) (.cons (.dic [] .nil) (.cons (.tup (.cons (.tup .nil) .nil)) (.cons (.tup (.cons (.cst (.int 0)) .nil)) (.cons (.lst (.cons (.cst (.int 0)) .nil)) (.cons (.tup (.cons (.cst (.int 0)) (.cons (.cst (.int 1)) .nil))) (.cons (.cst (.str (Str.ofString "0 1 1 up 0"))) (.cons (.cst (.str (Str.ofString "tie"))) .nil))))))))))))))))))) (.cons (.ret (.call 12 (.cons (.var 0) (.cons (.bin .Add (.var 1) (.lst (.cons (.tup (.cons (.cst (.bl true)) .nil)) (.cons (.lst (.cons (.cst (.str (Str.ofString "0"))) .nil)) (.cons (.dic [Str.ofString "a"] (.cons (.cst (.int 0)) .nil)) (.cons (.cst (.str (Str.ofString "size 1"))) (.cons (.tup (.cons (.cst (.str (Str.ofString "down"))) (.cons (.cst (.int 1)) .nil))) .nil))))))) .nil)) [] .nil)) .nil))⟩
def fn9 : Fn := ⟨2, 2, 0, (.cons (.ret (.sub (.var 1) (.call 14 (.cons (.var 0) (.cons (.blt .len (.cons (.var 1) .nil)) .nil)) [] .nil))) .nil)⟩
def fn10 : Fn := ⟨2, 8, 0, (.cons (.asg (.nm 2) (.bin .Add (.cst (.int 1)) (.call 14 (.cons (.var 0) (.cons (.var 1) .nil)) [] .nil))) (.cons (.par [3, 4] (.cons (.call 14 (.cons (.var 0) (.cons (.bin .Add (.bin .Sub (.var 1) (.var 2)) (.cst (.int 1))) .nil)) [] .nil) (.cons (.call 14 (.cons (.var 0) (.cons (.bin .Add (.bin .Sub (.var 1) (.var 2)) (.cst (.int 1))) .nil)) [] .nil) .nil))) (.cons (.par [5, 6, 7] (.cons (.call 19 (.cons (.var 0) .nil) [] .nil) (.cons (.cmp .Eq (.call 14 (.cons (.var 0) (.cons (.cst (.int 3)) .nil)) [] .nil) (.cst (.int 0))) (.cons (.cmp .Eq (.call 14 (.cons (.var 0) (.cons (.cst (.int 3)) .nil)) [] .nil) (.cst (.int 0))) .nil)))) (.cons (.ret (.tup (.cons (.var 3) (.cons (.var 4) (.cons (.var 2) (.cons (.var 5) (.cons (.var 6) (.cons (.and (.cons (.var 7) (.cons (.cmp .Gt (.var 2) (.cst (.int 1))) .nil))) .nil)))))))) .nil))))⟩
def fn11 : Fn := ⟨1, 2, 0, (.cons (.asg (.nm 1) (.lst (.cons (.blt .str (.cons (.sub (.var 0) (.cst (.int 0))) .nil)) (.cons (.blt .str (.cons (.sub (.var 0) (.cst (.int 1))) .nil)) (.cons (.blt .str (.cons (.sub (.var 0) (.cst (.int 2))) .nil)) (.cons (.ite (.sub (.var 0) (.cst (.int 4))) (.cst (.str (Str.ofString "down"))) (.cst (.str (Str.ofString "up")))) (.cons (.blt .str (.cons (.sub (.var 0) (.cst (.int 3))) .nil)) .nil))))))) (.cons (.ret (.sm .join (.cst (.str (Str.ofString " "))) (.cons (.bin .Add (.var 1) (.ite (.sub (.var 0) (.cst (.int 5))) (.lst (.cons (.cst (.str (Str.ofString "back"))) .nil)) (.lst .nil))) .nil))) .nil))⟩
def fn12 : Fn := ⟨1, 1, 0, (.cons (.ret (.call 8 (.cons (.sub (.var 0) (.cst (.int 0))) (.cons (.sub (.var 0) (.cst (.int 1))) (.cons (.sub (.var 0) (.cst (.int 2))) (.cons (.sub (.var 0) (.cst (.int 3))) .nil)))) [14, 15] (.cons (.sub (.var 0) (.cst (.int 4))) (.cons (.sub (.var 0) (.cst (.int 5))) .nil)))) .nil)⟩
def fn13 : Fn := ⟨2, 5, 0, (.cons (.ite (.cmp .Gt (.sub (.var 0) (.cst (.int 0))) (.cst (.int 0))) (.cons (.asg (.nm 2) (.bin .Mod (.blt .int (.cons (.sub (.var 0) (.cst (.int 0))) .nil)) (.var 1))) (.cons (.seti (.var 0) (.cst (.int 0)) (.bin .FloorDiv (.sub (.var 0) (.cst (.int 0))) (.var 1))) (.cons (.ret (.var 2)) .nil))) .nil) (.cons (.seti (.var 0) (.cst (.int 2)) (.bin .Add (.sub (.var 0) (.cst (.int 2))) (.cst (.int 1)))) (.cons (.asg (.nm 3) (.sub (.lst (.cons (.cst (.int 2147483647)) (.cons (.cst (.int 2147483629)) (.cons (.cst (.int 2147483587)) (.cons (.cst (.int 2147483579)) (.cons (.cst (.int 2147483563)) .nil)))))) (.bin .Mod (.blt .int (.cons (.sub (.var 0) (.cst (.int 2))) .nil)) (.cst (.int 5))))) (.cons (.asg (.nm 4) (.bin .Mod (.blt .int (.cons (.bin .Pow (.blt .int (.cons (.bin .Add (.bin .Add (.sub (.var 0) (.cst (.int 1))) (.bin .Mult (.bin .Mult (.cst (.int 100169)) (.sub (.var 0) (.cst (.int 2)))) (.sub (.var 0) (.cst (.int 2))))) (.cst (.int 53))) .nil)) (.cst (.int 3))) .nil)) (.var 3))) (.cons (.asg (.nm 4) (.bin .Mod (.blt .int (.cons (.bin .Mult (.var 4) (.bin .Add (.bin .Mod (.blt .int (.cons (.var 4) .nil)) (.cst (.int 10039))) (.bin .Mult (.cst (.int 97)) (.sub (.var 0) (.cst (.int 2)))))) .nil)) (.cst (.int 2305843009213693907)))) (.cons (.ret (.bin .Mod (.blt .int (.cons (.bin .FloorDiv (.var 4) (.cst (.int 127))) .nil)) (.var 1))) .nil))))))⟩
def fn14 : Fn := ⟨1, 3, 0, (.cons (.asg (.nm 1) (.cst .non)) (.cons (.tr (.cons (.exp (.lcal 0)) .nil) 20 (some 2) (.cons (.asg (.nm 1) (.var 2)) .nil)) (.cons (.ret (.var 1)) .nil)))⟩
def fn15 : Fn := ⟨1, 1, 0, (.cons (.ret (.tup (.cons (.atr (.var 0) 19) (.cons (.atr (.var 0) 18) (.cons (.atr (.var 0) 17) (.cons (.atr (.var 0) 16) (.cons (.atr (.var 0) 14) (.cons (.atr (.var 0) 15) .nil)))))))) .nil)⟩
def fn16 : Fn := ⟨1, 4, 0, (.cons (.asg (.nm 1) (.ite (.isi (.var 0) .str 0) (.sm .split (.var 0) (.cons (.cst (.str (Str.ofString " "))) .nil)) (.lst .nil))) (.cons (.ite (.or (.cons (.cmp .NotIn (.blt .len (.cons (.var 1) .nil)) (.tup (.cons (.cst (.int 5)) (.cons (.cst (.int 6)) .nil)))) (.cons (.cmp .NotIn (.sub (.var 1) (.cst (.int 3))) (.tup (.cons (.cst (.str (Str.ofString "up"))) (.cons (.cst (.str (Str.ofString "down"))) .nil)))) (.cons (.cmp .NotIn (.slc (.var 1) (.yes (.cst (.int 5))) .no) (.tup (.cons (.lst .nil) (.cons (.lst (.cons (.cst (.str (Str.ofString "back"))) .nil)) .nil)))) .nil)))) (.cons (.ret (.cst .non)) .nil) .nil) (.cons (.asg (.nm 2) (.lc (.call 21 (.cons (.var 3) .nil) [] .nil) (.nm 3) (.seq (.bin .Add (.slc (.var 1) .no (.yes (.cst (.int 3)))) (.slc (.var 1) (.yes (.cst (.int 4))) (.yes (.cst (.int 5)))))) .no [3])) (.cons (.ite (.or (.cons (.cmp .In (.cst .non) (.var 2)) (.cons (.cmp .Lt (.blt .min (.cons (.slc (.var 2) .no (.yes (.cst (.int 2)))) .nil)) (.cst (.int 0))) (.cons (.cmp .Lt (.sub (.var 2) (.cst (.int 2))) (.cst (.int 1))) (.cons (.cmp .Gt (.bin .Add (.blt .max (.cons (.slc (.var 2) .no (.yes (.cst (.int 2)))) .nil)) (.sub (.var 2) (.cst (.int 2)))) (.bin .Pow (.cst (.int 10)) (.cst (.int 30)))) .nil))))) (.cons (.ret (.cst .non)) .nil) .nil) (.cons (.ret (.tup (.cons (.sub (.var 2) (.cst (.int 0))) (.cons (.sub (.var 2) (.cst (.int 1))) (.cons (.sub (.var 2) (.cst (.int 2))) (.cons (.sub (.var 2) (.cst (.int 3))) (.cons (.cmp .Eq (.sub (.var 1) (.cst (.int 3))) (.cst (.str (Str.ofString "down")))) (.cons (.and (.cons (.cmp .Eq (.blt .len (.cons (.var 1) .nil)) (.cst (.int 6))) (.cons (.cmp .Gt (.sub (.var 2) (.cst (.int 2))) (.cst (.int 1))) .nil))) .nil)))))))) .nil)))))⟩
def fn17 : Fn := ⟨1, 1, 0, (.cons (.ret (.call 12 (.cons (.var 0) (.cons (.lst (.cons (.cst (.int 0)) (.cons (.cst (.int 0)) (.cons (.cst (.int 1)) (.cons (.neg (.cst (.int 1))) (.cons (.cst (.int 2)) (.cons (.cst (.int 5)) (.cons (.neg (.cst (.int 7))) (.cons (.cst (.int 12)) (.cons (.bin .Pow (.cst (.int 10)) (.cst (.int 35))) .nil)))))))))) .nil)) [] .nil)) .nil)⟩
def fn18 : Fn := ⟨1, 3, 0, (.cons (.asg (.nm 1) (.ite (.cmp .Eq (.slc (.var 0) .no (.yes (.cst (.int 1)))) (.cst (.str (Str.ofString "-")))) (.slc (.var 0) (.yes (.cst (.int 1))) .no) (.var 0))) (.cons (.ite (.or (.cons (.cmp .Eq (.var 1) (.cst (.str (Str.ofString "")))) (.cons (.not (.blt .all (.cons (.lc (.cmp .In (.var 2) (.cst (.str (Str.ofString "0123456789")))) (.nm 2) (.seq (.var 1)) .no [2]) .nil))) (.cons (.and (.cons (.cmp .Eq (.sub (.var 1) (.cst (.int 0))) (.cst (.str (Str.ofString "0")))) (.cons (.cmp .NotEq (.var 0) (.cst (.str (Str.ofString "0")))) .nil))) .nil)))) (.cons (.ret (.cst .non)) .nil) .nil) (.cons (.ret (.blt .int (.cons (.var 0) .nil))) .nil)))⟩
def fn19 : Fn := ⟨7, 9, 0, (.cons (.fo (.nm 7) (.seq (.tup (.cons (.var 1) (.cons (.var 2) .nil)))) (.cons (.ite (.not (.call 23 (.cons (.var 7) (.cons (.cst (.int 0)) .nil)) [] .nil)) (.cons (.rse 27 (.var 7)) .nil) .nil) .nil)) (.cons (.ite (.not (.call 23 (.cons (.var 3) (.cons (.cst (.int 1)) (.cons (.bin .Sub (.glo 25) (.blt .max (.cons (.var 1) (.cons (.var 2) .nil)))) .nil))) [] .nil)) (.cons (.rse 26 (.var 3)) .nil) .nil) (.cons (.ite (.not (.call 23 (.cons (.var 4) .nil) [] .nil)) (.cons (.rse 24 (.var 4)) .nil) .nil) (.cons (.fo (.nm 8) (.seq (.tup (.cons (.var 5) (.cons (.var 6) .nil)))) (.cons (.ite (.not (.isi (.var 8) .bool 0)) (.cons (.rse 22 (.var 8)) .nil) .nil) .nil)) (.cons (.setf (.var 0) 25 (.var 1)) (.cons (.setf (.var 0) 24 (.var 2)) (.cons (.setf (.var 0) 23 (.var 3)) (.cons (.setf (.var 0) 22 (.var 4)) (.cons (.setf (.var 0) 21 (.var 5)) (.cons (.setf (.var 0) 20 (.and (.cons (.var 6) (.cons (.cmp .Gt (.var 3) (.cst (.int 1))) .nil)))) .nil))))))))))⟩
def fn20 : Fn := ⟨1, 1, 0, (.cons (.ret (.atr (.var 0) 25)) .nil)⟩
def fn21 : Fn := ⟨1, 1, 0, (.cons (.ret (.atr (.var 0) 24)) .nil)⟩
def fn22 : Fn := ⟨1, 1, 0, (.cons (.ret (.atr (.var 0) 23)) .nil)⟩
def fn23 : Fn := ⟨1, 1, 0, (.cons (.ret (.atr (.var 0) 22)) .nil)⟩
def fn24 : Fn := ⟨1, 1, 0, (.cons (.ret (.atr (.var 0) 21)) .nil)⟩
def fn25 : Fn := ⟨1, 1, 0, (.cons (.ret (.atr (.var 0) 20)) .nil)⟩
def fn26 : Fn := ⟨1, 2, 0, (.cons (.asg (.nm 1) (.lst (.cons (.blt .str (.cons (.atr (.var 0) 19) .nil)) (.cons (.blt .str (.cons (.atr (.var 0) 18) .nil)) (.cons (.blt .str (.cons (.atr (.var 0) 17) .nil)) (.cons (.ite (.atr (.var 0) 14) (.glo 30) (.glo 31)) (.cons (.blt .str (.cons (.atr (.var 0) 16) .nil)) .nil))))))) (.cons (.ret (.sm .join (.glo 28) (.cons (.ite (.atr (.var 0) 15) (.std false [true, false] (.cons (.var 1) (.cons (.glo 29) .nil))) (.var 1)) .nil))) .nil))⟩
def fn27 : Fn := ⟨2, 2, 0, (.cons (.ret (.and (.cons (.isi (.var 1) (.own 0) 8) (.cons (.cmp .Eq (.atr (.var 0) 26) (.atr (.var 1) 26)) .nil)))) .nil)⟩
def fn28 : Fn := ⟨1, 2, 0, (.cons (.asg (.nm 1) (.call 32 (.cons (.var 0) .nil) [] .nil)) (.cons (.ite (.cmp .Is (.var 1) (.cst .non)) (.cons (.rse 16 (.var 0)) .nil) .nil) (.cons (.ret (.var 1)) .nil)))⟩
def fn29 : Fn := ⟨3, 3, 0, (.cons (.ite (.or (.cons (.not (.isi (.var 0) .int 0)) (.cons (.isi (.var 0) .bool 0) .nil))) (.cons (.ret (.cst (.bl false))) .nil) .nil) (.cons (.ret (.and (.cons (.or (.cons (.cmp .Is (.var 1) (.cst .non)) (.cons (.cmp .GtE (.var 0) (.var 1)) .nil))) (.cons (.or (.cons (.cmp .Is (.var 2) (.cst .non)) (.cons (.cmp .LtE (.var 0) (.var 2)) .nil))) .nil)))) .nil))⟩
def fn30 : Fn := ⟨1, 8, 0, (.cons (.asg (.nm 1) (.ite (.isi (.var 0) .str 0) (.sm .split (.var 0) (.cons (.glo 28) .nil)) (.lst .nil))) (.cons (.asg (.nm 2) (.and (.cons (.cmp .Eq (.blt .len (.cons (.var 1) .nil)) (.glo 35)) (.cons (.cmp .Eq (.sub (.var 1) (.neg (.cst (.int 1)))) (.glo 29)) .nil)))) (.cons (.ite (.or (.cons (.and (.cons (.not (.var 2)) (.cons (.cmp .NotEq (.blt .len (.cons (.var 1) .nil)) (.glo 33)) .nil))) (.cons (.cmp .NotIn (.sub (.var 1) (.bin .Sub (.glo 33) (.cst (.int 2)))) (.tup (.cons (.glo 31) (.cons (.glo 30) .nil)))) .nil))) (.cons (.ret (.cst .non)) .nil) .nil) (.cons (.asg (.nm 3) (.call 34 (.cons (.std false [true, false] (.cons (.slc (.var 1) .no (.yes (.bin .Sub (.glo 33) (.cst (.int 2))))) (.cons (.sub (.var 1) (.bin .Sub (.glo 33) (.cst (.int 1)))) .nil))) .nil) [] .nil)) (.cons (.ite (.cmp .Is (.var 3) (.cst .non)) (.cons (.ret (.cst .non)) .nil) .nil) (.cons (.tr (.cons (.asg (.tp [4, 5, 6, 7]) (.var 3)) (.cons (.ret (.call 8 (.cons (.var 4) (.cons (.var 5) (.cons (.var 6) (.cons (.var 7) .nil)))) [14, 15] (.cons (.cmp .Eq (.sub (.var 1) (.bin .Sub (.glo 33) (.cst (.int 2)))) (.glo 30)) (.cons (.var 2) .nil)))) .nil)) 20 none (.cons (.ret (.cst .non)) .nil)) .nil))))))⟩
def fn31 : Fn := ⟨1, 3, 0, (.cons (.asg (.nm 1) (.lc (.call 36 (.cons (.var 2) .nil) [] .nil) (.nm 2) (.seq (.var 0)) .no [2])) (.cons (.ret (.ite (.cmp .In (.cst .non) (.var 1)) (.cst .non) (.var 1))) .nil))⟩
def fn32 : Fn := ⟨1, 3, 0, (.cons (.asg (.nm 1) (.sm .rmp (.var 0) (.cons (.cst (.str (Str.ofString "-"))) .nil))) (.cons (.ite (.or (.cons (.cmp .Eq (.var 1) (.cst (.str (Str.ofString "")))) (.cons (.not (.blt .all (.cons (.lc (.cmp .In (.var 2) (.glo 37)) (.nm 2) (.seq (.var 1)) .no [2]) .nil))) .nil))) (.cons (.ret (.cst .non)) .nil) .nil) (.cons (.ite (.and (.cons (.cmp .Eq (.sub (.var 1) (.cst (.int 0))) (.cst (.str (Str.ofString "0")))) (.cons (.cmp .NotEq (.var 0) (.cst (.str (Str.ofString "0")))) .nil))) (.cons (.ret (.cst .non)) .nil) .nil) (.cons (.ret (.blt .int (.cons (.var 0) .nil))) .nil))))⟩
def fn33 : Fn := ⟨1, 1, 0, (.cons (.ret (.tup (.cons (.atr (.var 0) 19) (.cons (.atr (.var 0) 18) (.cons (.atr (.var 0) 17) (.cons (.atr (.var 0) 16) (.cons (.atr (.var 0) 14) (.cons (.atr (.var 0) 15) .nil)))))))) .nil)⟩
def fn34 : Fn := ⟨1, 1, 4, (.cons (.ret (.smc 8 12 (.cons (.var 0) .nil))) .nil)⟩
def pgFns : List Fn := [fn0, fn1, fn2, fn3, fn4, fn5, fn6, fn7, fn8, fn9, fn10, fn11, fn12, fn13, fn14, fn15, fn16, fn17, fn18, fn19, fn20, fn21, fn22, fn23, fn24, fn25, fn26, fn27, fn28, fn29, fn30, fn31, fn32, fn33, fn34]
def pgCls0 : Tn.Cls := ⟨[25, 24, 23, 22, 21, 20], [(19, 20), (18, 21), (17, 22), (16, 23), (14, 24), (15, 25), (13, 26), (26, 33)], [(0, 27)], 19, [(12, 28)]⟩
def pgCls : List Tn.Cls := [pgCls0]
def pgGlo : List Gk := [.fn 0, .fn 1, .fn 3, .fn 2, .fn 6, .fn 8, .fn 7, .fn 4, .cls 0, .fn 12, .fn 11, .fn 5, .fn 9, .fn 10, .fn 13, .fn 15, .exc 5, .fn 16, .fn 14, .fn 17, .exc 0, .fn 18, .exc 4, .fn 29, .exc 3, .cst (.int 1000000000000000000000000000000), .exc 2, .exc 1, .cst (.str (Str.ofString " ")), .cst (.str (Str.ofString "back")), .cst (.str (Str.ofString "down")), .cst (.str (Str.ofString "up")), .fn 30, .cst (.int 5), .fn 31, .cst (.int 6), .fn 32, .cst (.str (Str.ofString "0123456789"))]
def pgShp : List (Nat × Nat × List Nat × Fill) := [(1, 2, [], [.inl 0, .inl 1]), (2, 1, [], [.inl 0]), (3, 2, [], [.inl 0, .inl 1]), (4, 1, [], [.inl 0]), (5, 1, [], [.inl 0]), (6, 1, [], [.inl 0]), (7, 2, [], [.inl 0, .inl 1]), (9, 1, [], [.inl 0]), (10, 1, [], [.inl 0]), (11, 2, [], [.inl 0, .inl 1]), (12, 2, [], [.inl 0, .inl 1]), (13, 2, [], [.inl 0, .inl 1]), (14, 2, [], [.inl 0, .inl 1]), (15, 1, [], [.inl 0]), (17, 1, [], [.inl 0]), (18, 1, [], [.inl 0]), (19, 1, [], [.inl 0]), (8, 4, [14, 15], [.inl 0, .inl 1, .inl 2, .inl 3, .inl 4, .inl 5]), (21, 1, [], [.inl 0]), (23, 1, [], [.inl 0, .inr .non, .inr .non]), (23, 3, [], [.inl 0, .inl 1, .inl 2]), (23, 2, [], [.inl 0, .inl 1, .inr .non]), (32, 1, [], [.inl 0]), (34, 1, [], [.inl 0]), (36, 1, [], [.inl 0]), (0, 1, [], [.inl 0])]
def pg : Pg := ⟨pgFns, pgCls, pgGlo, pgShp, 11⟩
def mtNm0 : List Str := [Str.ofString "__eq__", Str.ofString "__invert__", Str.ofString "__rshift__", Str.ofString "__mul__", Str.ofString "__call__", Str.ofString "__len__", Str.ofString "__getitem__", Str.ofString "__contains__", Str.ofString "__add__", Str.ofString "__or__", Str.ofString "__neg__", Str.ofString "value", Str.ofString "of", Str.ofString "text", Str.ofString "down", Str.ofString "backward", Str.ofString "amount", Str.ofString "length", Str.ofString "second", Str.ofString "first", Str.ofString "own_backward", Str.ofString "own_down", Str.ofString "own_amount", Str.ofString "own_length", Str.ofString "own_second", Str.ofString "own_first", Str.ofString "own_mark", Str.ofString "shift", Str.ofString "turn", Str.ofString "__init__"]
def mtNm1 : List Str := [Str.ofString "partner", Str.ofString "led", Str.ofString "between", Str.ofString "part", Str.ofString "places_into", Str.ofString "led_often"]
def mtNm : List Str := mtNm0 ++ mtNm1
def mtGn0 : List Str := [Str.ofString "law", Str.ofString "_law_cells", Str.ofString "_law_right", Str.ofString "_law_pot", Str.ofString "_law_is_read", Str.ofString "_law_odd", Str.ofString "_law_is_short", Str.ofString "_law_bent_line", Str.ofString "Tie", Str.ofString "_law_tie", Str.ofString "_law_text_of", Str.ofString "_law_far", Str.ofString "_law_of", Str.ofString "_law_row", Str.ofString "_law_take", Str.ofString "_law_row_of", Str.ofString "BadText", Str.ofString "_law_row_told", Str.ofString "_law_met_error", Str.ofString "_law_amount", Str.ofString "TuneError", Str.ofString "_law_figure", Str.ofString "BadWay", Str.ofString "is_integer", Str.ofString "BadAmount", Str.ofString "END", Str.ofString "BadLength", Str.ofString "BadPlace", Str.ofString "BLANK", Str.ofString "BACK"]
def mtGn1 : List Str := [Str.ofString "DOWN", Str.ofString "UP", Str.ofString "tie_told", Str.ofString "WORDS", Str.ofString "numbers_told", Str.ofString "MOST_WORDS", Str.ofString "number_told", Str.ofString "FIGURES"]
def mtGn : List Str := mtGn0 ++ mtGn1
def mtCn0 : List Str := [Str.ofString "Tie"]
def mtCn : List Str := mtCn0
def mtXn0 : List Str := [Str.ofString "TuneError", Str.ofString "BadPlace", Str.ofString "BadLength", Str.ofString "BadAmount", Str.ofString "BadWay", Str.ofString "BadText", Str.ofString "NoPlace", Str.ofString "BadNote", Str.ofString "BadPart", Str.ofString "NoJoint", Str.ofString "BadNumber"]
def mtXn : List Str := mtXn0
def mtFs0 : List (At × List Str × List Str) := [(.g (Str.ofString "law"), [Str.ofString "_law_script"], [Str.ofString "_law_script", Str.ofString "_law_k", Str.ofString "_law_pot_here", Str.ofString "_law_lap"])]
def mtFs1 : List (At × List Str × List Str) := [(.g (Str.ofString "_law_cells"), [Str.ofString "_law_script", Str.ofString "_law_most"], [Str.ofString "_law_script", Str.ofString "_law_most"])]
def mtFs2 : List (At × List Str × List Str) := [(.g (Str.ofString "_law_pot"), [Str.ofString "_law_script", Str.ofString "_law_k"], [Str.ofString "_law_script", Str.ofString "_law_k", Str.ofString "_law_cell", Str.ofString "_law_own", Str.ofString "_law_small"])]
def mtFs3 : List (At × List Str × List Str) := [(.g (Str.ofString "_law_right"), [Str.ofString "_law_pot_here"], [Str.ofString "_law_pot_here", Str.ofString "_law_row_here", Str.ofString "_law_far_here", Str.ofString "_law_near", Str.ofString "_law_text", Str.ofString "_law_turn", Str.ofString "_law_value", Str.ofString "_law_some"])]
def mtFs4 : List (At × List Str × List Str) := [(.g (Str.ofString "_law_bent_line"), [Str.ofString "_law_pot_here", Str.ofString "_law_line"], [Str.ofString "_law_pot_here", Str.ofString "_law_line", Str.ofString "_law_words", Str.ofString "_law_way", Str.ofString "_law_at", Str.ofString "_law_spot", Str.ofString "_law_sign"])]
def mtFs5 : List (At × List Str × List Str) := [(.g (Str.ofString "_law_far"), [Str.ofString "_law_row_here", Str.ofString "_law_far_here"], [Str.ofString "_law_row_here", Str.ofString "_law_far_here"])]
def mtFs6 : List (At × List Str × List Str) := [(.g (Str.ofString "_law_is_read"), [Str.ofString "_law_value"], [Str.ofString "_law_value", Str.ofString "_law_caught", Str.ofString "_law_due"])]
def mtFs7 : List (At × List Str × List Str) := [(.g (Str.ofString "_law_is_short"), [Str.ofString "_law_text"], [Str.ofString "_law_text", Str.ofString "_law_word"])]
def mtFs8 : List (At × List Str × List Str) := [(.g (Str.ofString "_law_odd"), [Str.ofString "_law_pot_here"], [Str.ofString "_law_pot_here", Str.ofString "_law_some"])]
def mtFs9 : List (At × List Str × List Str) := [(.g (Str.ofString "_law_of"), [Str.ofString "_law_pot_here", Str.ofString "_law_some"], [Str.ofString "_law_pot_here", Str.ofString "_law_some"])]
def mtFs10 : List (At × List Str × List Str) := [(.g (Str.ofString "_law_row"), [Str.ofString "_law_pot_here", Str.ofString "_law_size"], [Str.ofString "_law_pot_here", Str.ofString "_law_size", Str.ofString "_law_length", Str.ofString "_law_first", Str.ofString "_law_second", Str.ofString "_law_amount_here", Str.ofString "_law_is_down", Str.ofString "_law_is_back"])]
def mtFs11 : List (At × List Str × List Str) := [(.g (Str.ofString "_law_text_of"), [Str.ofString "_law_row_here"], [Str.ofString "_law_row_here", Str.ofString "_law_words"])]
def mtFs12 : List (At × List Str × List Str) := [(.g (Str.ofString "_law_tie"), [Str.ofString "_law_row_here"], [Str.ofString "_law_row_here"])]
def mtFs13 : List (At × List Str × List Str) := [(.g (Str.ofString "_law_take"), [Str.ofString "_law_pot_here", Str.ofString "_law_under"], [Str.ofString "_law_pot_here", Str.ofString "_law_under", Str.ofString "_law_digit", Str.ofString "_law_prime", Str.ofString "_law_mixed"])]
def mtFs14 : List (At × List Str × List Str) := [(.g (Str.ofString "_law_met_error"), [Str.ofString "_law_look"], [Str.ofString "_law_look", Str.ofString "_law_caught", Str.ofString "error"])]
def mtFs15 : List (At × List Str × List Str) := [(.g (Str.ofString "_law_row_of"), [Str.ofString "_law_tie_here"], [Str.ofString "_law_tie_here"])]
def mtFs16 : List (At × List Str × List Str) := [(.g (Str.ofString "_law_row_told"), [Str.ofString "_law_text"], [Str.ofString "_law_text", Str.ofString "_law_words", Str.ofString "_law_numbers", Str.ofString "_law_word"])]
def mtFs17 : List (At × List Str × List Str) := [(.g (Str.ofString "_law_amount"), [Str.ofString "_law_pot_here"], [Str.ofString "_law_pot_here"])]
def mtFs18 : List (At × List Str × List Str) := [(.g (Str.ofString "_law_figure"), [Str.ofString "_law_word"], [Str.ofString "_law_word", Str.ofString "_law_size", Str.ofString "_law_sign"])]
def mtFs19 : List (At × List Str × List Str) := [(.m (Str.ofString "Tie") (Str.ofString "__init__"), [Str.ofString "self", Str.ofString "first", Str.ofString "second", Str.ofString "length", Str.ofString "amount", Str.ofString "down", Str.ofString "backward"], [Str.ofString "self", Str.ofString "first", Str.ofString "second", Str.ofString "length", Str.ofString "amount", Str.ofString "down", Str.ofString "backward", Str.ofString "place", Str.ofString "way"])]
def mtFs20 : List (At × List Str × List Str) := [(.p (Str.ofString "Tie") (Str.ofString "first"), [Str.ofString "self"], [Str.ofString "self"])]
def mtFs21 : List (At × List Str × List Str) := [(.p (Str.ofString "Tie") (Str.ofString "second"), [Str.ofString "self"], [Str.ofString "self"])]
def mtFs22 : List (At × List Str × List Str) := [(.p (Str.ofString "Tie") (Str.ofString "length"), [Str.ofString "self"], [Str.ofString "self"])]
def mtFs23 : List (At × List Str × List Str) := [(.p (Str.ofString "Tie") (Str.ofString "amount"), [Str.ofString "self"], [Str.ofString "self"])]
def mtFs24 : List (At × List Str × List Str) := [(.p (Str.ofString "Tie") (Str.ofString "down"), [Str.ofString "self"], [Str.ofString "self"])]
def mtFs25 : List (At × List Str × List Str) := [(.p (Str.ofString "Tie") (Str.ofString "backward"), [Str.ofString "self"], [Str.ofString "self"])]
def mtFs26 : List (At × List Str × List Str) := [(.p (Str.ofString "Tie") (Str.ofString "text"), [Str.ofString "self"], [Str.ofString "self", Str.ofString "words"])]
def mtFs27 : List (At × List Str × List Str) := [(.m (Str.ofString "Tie") (Str.ofString "__eq__"), [Str.ofString "self", Str.ofString "other"], [Str.ofString "self", Str.ofString "other"])]
def mtFs28 : List (At × List Str × List Str) := [(.s (Str.ofString "Tie") (Str.ofString "of"), [Str.ofString "text"], [Str.ofString "text", Str.ofString "found"])]
def mtFs29 : List (At × List Str × List Str) := [(.g (Str.ofString "is_integer"), [Str.ofString "value", Str.ofString "least", Str.ofString "most"], [Str.ofString "value", Str.ofString "least", Str.ofString "most"])]
def mtFs30 : List (At × List Str × List Str) := [(.g (Str.ofString "tie_told"), [Str.ofString "text"], [Str.ofString "text", Str.ofString "words", Str.ofString "backward", Str.ofString "numbers", Str.ofString "first", Str.ofString "second", Str.ofString "length", Str.ofString "amount"])]
def mtFs31 : List (At × List Str × List Str) := [(.g (Str.ofString "numbers_told"), [Str.ofString "words"], [Str.ofString "words", Str.ofString "found", Str.ofString "word"])]
def mtFs32 : List (At × List Str × List Str) := [(.g (Str.ofString "number_told"), [Str.ofString "word"], [Str.ofString "word", Str.ofString "figures", Str.ofString "sign"])]
def mtFs33 : List (At × List Str × List Str) := [(.p (Str.ofString "Tie") (Str.ofString "own_mark"), [Str.ofString "self"], [Str.ofString "self"])]
def mtFs34 : List (At × List Str × List Str) := [(.no, [Str.ofString "_law_value"], [Str.ofString "_law_value"])]
def mtFs : List (At × List Str × List Str) := mtFs0 ++ mtFs1 ++ mtFs2 ++ mtFs3 ++ mtFs4 ++ mtFs5 ++ mtFs6 ++ mtFs7 ++ mtFs8 ++ mtFs9 ++ mtFs10 ++ mtFs11 ++ mtFs12 ++ mtFs13 ++ mtFs14 ++ mtFs15 ++ mtFs16 ++ mtFs17 ++ mtFs18 ++ mtFs19 ++ mtFs20 ++ mtFs21 ++ mtFs22 ++ mtFs23 ++ mtFs24 ++ mtFs25 ++ mtFs26 ++ mtFs27 ++ mtFs28 ++ mtFs29 ++ mtFs30 ++ mtFs31 ++ mtFs32 ++ mtFs33 ++ mtFs34
def mt : Mt := ⟨mtNm, mtGn, mtCn, mtXn, mtFs, [6], Str.ofString "/claim/cut.py"⟩
def looseN0 : List Str := [Str.ofString "TuneError", Str.ofString "BadPlace", Str.ofString "BadLength", Str.ofString "BadAmount", Str.ofString "BadWay", Str.ofString "BadText", Str.ofString "NoPlace", Str.ofString "BadNote", Str.ofString "BadPart", Str.ofString "NoJoint", Str.ofString "BadNumber", Str.ofString "FIGURES", Str.ofString "BLANK", Str.ofString "END", Str.ofString "is_integer", Str.ofString "number_told", Str.ofString "numbers_told", Str.ofString "UP", Str.ofString "DOWN", Str.ofString "BACK", Str.ofString "WORDS", Str.ofString "MOST_WORDS", Str.ofString "Tie", Str.ofString "tie_told", Str.ofString "_law_pot", Str.ofString "_law_take", Str.ofString "_law_of", Str.ofString "_law_cells", Str.ofString "_law_met_error", Str.ofString "_law_odd"]
def looseN1 : List Str := [Str.ofString "_law_amount", Str.ofString "_law_row", Str.ofString "_law_far", Str.ofString "_law_tie", Str.ofString "_law_row_of", Str.ofString "_law_text_of", Str.ofString "_law_figure", Str.ofString "_law_row_told", Str.ofString "_law_bent_line", Str.ofString "_law_is_short", Str.ofString "_law_is_read", Str.ofString "_law_right"]
def looseN : List Str := looseN0 ++ looseN1
theorem aF0 : pg.fns[0]? = some fn0 := rfl
theorem aF1 : pg.fns[1]? = some fn1 := rfl
theorem aF2 : pg.fns[2]? = some fn2 := rfl
theorem aF3 : pg.fns[3]? = some fn3 := rfl
theorem aF4 : pg.fns[4]? = some fn4 := rfl
theorem aF5 : pg.fns[5]? = some fn5 := rfl
theorem aF6 : pg.fns[6]? = some fn6 := rfl
theorem aF7 : pg.fns[7]? = some fn7 := rfl
theorem aF8 : pg.fns[8]? = some fn8 := rfl
theorem aF9 : pg.fns[9]? = some fn9 := rfl
theorem aF10 : pg.fns[10]? = some fn10 := rfl
theorem aF11 : pg.fns[11]? = some fn11 := rfl
theorem aF12 : pg.fns[12]? = some fn12 := rfl
theorem aF13 : pg.fns[13]? = some fn13 := rfl
theorem aF14 : pg.fns[14]? = some fn14 := rfl
theorem aF15 : pg.fns[15]? = some fn15 := rfl
theorem aF16 : pg.fns[16]? = some fn16 := rfl
theorem aF17 : pg.fns[17]? = some fn17 := rfl
theorem aF18 : pg.fns[18]? = some fn18 := rfl
theorem aF19 : pg.fns[19]? = some fn19 := rfl
theorem aF20 : pg.fns[20]? = some fn20 := rfl
theorem aF21 : pg.fns[21]? = some fn21 := rfl
theorem aF22 : pg.fns[22]? = some fn22 := rfl
theorem aF23 : pg.fns[23]? = some fn23 := rfl
theorem aF24 : pg.fns[24]? = some fn24 := rfl
theorem aF25 : pg.fns[25]? = some fn25 := rfl
theorem aF26 : pg.fns[26]? = some fn26 := rfl
theorem aF27 : pg.fns[27]? = some fn27 := rfl
theorem aF28 : pg.fns[28]? = some fn28 := rfl
theorem aF29 : pg.fns[29]? = some fn29 := rfl
theorem aF30 : pg.fns[30]? = some fn30 := rfl
theorem aF31 : pg.fns[31]? = some fn31 := rfl
theorem aF32 : pg.fns[32]? = some fn32 := rfl
theorem aF33 : pg.fns[33]? = some fn33 := rfl
theorem aF34 : pg.fns[34]? = some fn34 := rfl
theorem aG8 : pg.glo[8]? = some (.cls 0) := rfl
theorem aG16 : pg.glo[16]? = some (.exc 5) := rfl
theorem aG20 : pg.glo[20]? = some (.exc 0) := rfl
theorem aG22 : pg.glo[22]? = some (.exc 4) := rfl
theorem aG24 : pg.glo[24]? = some (.exc 3) := rfl
theorem aG25 : pg.glo[25]? = some (.cst (.int 1000000000000000000000000000000)) := rfl
theorem aG26 : pg.glo[26]? = some (.exc 2) := rfl
theorem aG27 : pg.glo[27]? = some (.exc 1) := rfl
theorem aG28 : pg.glo[28]? = some (.cst (.str (Str.ofString " "))) := rfl
theorem aG29 : pg.glo[29]? = some (.cst (.str (Str.ofString "back"))) := rfl
theorem aG30 : pg.glo[30]? = some (.cst (.str (Str.ofString "down"))) := rfl
theorem aG31 : pg.glo[31]? = some (.cst (.str (Str.ofString "up"))) := rfl
theorem aG33 : pg.glo[33]? = some (.cst (.int 5)) := rfl
theorem aG35 : pg.glo[35]? = some (.cst (.int 6)) := rfl
theorem aG37 : pg.glo[37]? = some (.cst (.str (Str.ofString "0123456789"))) := rfl
theorem aC0 (C : Tn.Call) (m : Mu) (w0 w1 : W) : callG pg C 1 2 [] [w0, w1] m = C.hi 1 [w0, w1] m := rfl
theorem aC1 (C : Tn.Call) (m : Mu) (w0 : W) : callG pg C 2 1 [] [w0] m = C.hi 3 [w0] m := rfl
theorem aC2 (C : Tn.Call) (m : Mu) (w0 w1 : W) : callG pg C 3 2 [] [w0, w1] m = C.hi 2 [w0, w1] m := rfl
theorem aC3 (C : Tn.Call) (m : Mu) (w0 : W) : callG pg C 4 1 [] [w0] m = C.hi 6 [w0] m := rfl
theorem aC4 (C : Tn.Call) (m : Mu) (w0 : W) : callG pg C 5 1 [] [w0] m = C.hi 8 [w0] m := rfl
theorem aC5 (C : Tn.Call) (m : Mu) (w0 : W) : callG pg C 6 1 [] [w0] m = C.hi 7 [w0] m := rfl
theorem aC6 (C : Tn.Call) (m : Mu) (w0 w1 : W) : callG pg C 7 2 [] [w0, w1] m = C.hi 4 [w0, w1] m := rfl
theorem aC7 (C : Tn.Call) (m : Mu) (w0 : W) : callG pg C 9 1 [] [w0] m = C.hi 12 [w0] m := rfl
theorem aC8 (C : Tn.Call) (m : Mu) (w0 : W) : callG pg C 10 1 [] [w0] m = C.hi 11 [w0] m := rfl
theorem aC9 (C : Tn.Call) (m : Mu) (w0 w1 : W) : callG pg C 11 2 [] [w0, w1] m = C.hi 5 [w0, w1] m := rfl
theorem aC10 (C : Tn.Call) (m : Mu) (w0 w1 : W) : callG pg C 12 2 [] [w0, w1] m = C.hi 9 [w0, w1] m := rfl
theorem aC11 (C : Tn.Call) (m : Mu) (w0 w1 : W) : callG pg C 13 2 [] [w0, w1] m = C.hi 10 [w0, w1] m := rfl
theorem aC12 (C : Tn.Call) (m : Mu) (w0 w1 : W) : callG pg C 14 2 [] [w0, w1] m = C.hi 13 [w0, w1] m := rfl
theorem aC13 (C : Tn.Call) (m : Mu) (w0 : W) : callG pg C 15 1 [] [w0] m = C.hi 15 [w0] m := rfl
theorem aC14 (C : Tn.Call) (m : Mu) (w0 : W) : callG pg C 17 1 [] [w0] m = C.hi 16 [w0] m := rfl
theorem aC15 (C : Tn.Call) (m : Mu) (w0 : W) : callG pg C 18 1 [] [w0] m = C.hi 14 [w0] m := rfl
theorem aC16 (C : Tn.Call) (m : Mu) (w0 : W) : callG pg C 19 1 [] [w0] m = C.hi 17 [w0] m := rfl
theorem aC17 (C : Tn.Call) (m : Mu) (w0 w1 w2 w3 w4 w5 : W) : callG pg C 8 4 [14, 15] [w0, w1, w2, w3, w4, w5] m = mkObj pg C 0 [w0, w1, w2, w3, w4, w5] m := rfl
theorem aC18 (C : Tn.Call) (m : Mu) (w0 : W) : callG pg C 21 1 [] [w0] m = C.hi 18 [w0] m := rfl
theorem aC19 (C : Tn.Call) (m : Mu) (w0 : W) : callG pg C 23 1 [] [w0] m = C.hi 29 [w0, .d .non, .d .non] m := rfl
theorem aC20 (C : Tn.Call) (m : Mu) (w0 w1 w2 : W) : callG pg C 23 3 [] [w0, w1, w2] m = C.hi 29 [w0, w1, w2] m := rfl
theorem aC21 (C : Tn.Call) (m : Mu) (w0 w1 : W) : callG pg C 23 2 [] [w0, w1] m = C.hi 29 [w0, w1, .d .non] m := rfl
theorem aC22 (C : Tn.Call) (m : Mu) (w0 : W) : callG pg C 32 1 [] [w0] m = C.hi 30 [w0] m := rfl
theorem aC23 (C : Tn.Call) (m : Mu) (w0 : W) : callG pg C 34 1 [] [w0] m = C.hi 31 [w0] m := rfl
theorem aC24 (C : Tn.Call) (m : Mu) (w0 : W) : callG pg C 36 1 [] [w0] m = C.hi 32 [w0] m := rfl
theorem aC25 (C : Tn.Call) (m : Mu) (w0 : W) : callG pg C 0 1 [] [w0] m = C.hi 0 [w0] m := rfl
theorem aA0_25 (C : Tn.Call) (m : Mu) (d0 d1 d2 d3 d4 d5 : D) : attr pg C (.d (.ins 0 [d0, d1, d2, d3, d4, d5])) 25 m = .ok (.d d0) m := rfl
theorem aA0_24 (C : Tn.Call) (m : Mu) (d0 d1 d2 d3 d4 d5 : D) : attr pg C (.d (.ins 0 [d0, d1, d2, d3, d4, d5])) 24 m = .ok (.d d1) m := rfl
theorem aA0_23 (C : Tn.Call) (m : Mu) (d0 d1 d2 d3 d4 d5 : D) : attr pg C (.d (.ins 0 [d0, d1, d2, d3, d4, d5])) 23 m = .ok (.d d2) m := rfl
theorem aA0_22 (C : Tn.Call) (m : Mu) (d0 d1 d2 d3 d4 d5 : D) : attr pg C (.d (.ins 0 [d0, d1, d2, d3, d4, d5])) 22 m = .ok (.d d3) m := rfl
theorem aA0_21 (C : Tn.Call) (m : Mu) (d0 d1 d2 d3 d4 d5 : D) : attr pg C (.d (.ins 0 [d0, d1, d2, d3, d4, d5])) 21 m = .ok (.d d4) m := rfl
theorem aA0_20 (C : Tn.Call) (m : Mu) (d0 d1 d2 d3 d4 d5 : D) : attr pg C (.d (.ins 0 [d0, d1, d2, d3, d4, d5])) 20 m = .ok (.d d5) m := rfl
theorem aP0_19 (C : Tn.Call) (m : Mu) (ds : List D) : attr pg C (.d (.ins 0 ds)) 19 m = M.calm (C.lo 20 [.d (.ins 0 ds)]) m := rfl
theorem aP0_18 (C : Tn.Call) (m : Mu) (ds : List D) : attr pg C (.d (.ins 0 ds)) 18 m = M.calm (C.lo 21 [.d (.ins 0 ds)]) m := rfl
theorem aP0_17 (C : Tn.Call) (m : Mu) (ds : List D) : attr pg C (.d (.ins 0 ds)) 17 m = M.calm (C.lo 22 [.d (.ins 0 ds)]) m := rfl
theorem aP0_16 (C : Tn.Call) (m : Mu) (ds : List D) : attr pg C (.d (.ins 0 ds)) 16 m = M.calm (C.lo 23 [.d (.ins 0 ds)]) m := rfl
theorem aP0_14 (C : Tn.Call) (m : Mu) (ds : List D) : attr pg C (.d (.ins 0 ds)) 14 m = M.calm (C.lo 24 [.d (.ins 0 ds)]) m := rfl
theorem aP0_15 (C : Tn.Call) (m : Mu) (ds : List D) : attr pg C (.d (.ins 0 ds)) 15 m = M.calm (C.lo 25 [.d (.ins 0 ds)]) m := rfl
theorem aP0_13 (C : Tn.Call) (m : Mu) (ds : List D) : attr pg C (.d (.ins 0 ds)) 13 m = M.calm (C.lo 26 [.d (.ins 0 ds)]) m := rfl
theorem aP0_26 (C : Tn.Call) (m : Mu) (ds : List D) : attr pg C (.d (.ins 0 ds)) 26 m = M.calm (C.lo 33 [.d (.ins 0 ds)]) m := rfl
theorem aM0_0 : pg.meth 0 0 = some 27 := rfl
theorem aS0_12 : pg.stat 0 12 = some 28 := rfl
theorem aK0 : pg.cls[0]? = some pgCls0 := rfl

/-! ### plain facts -/
theorem lev_hi (P : Pg) (n f : Nat) (ws : List W) (m : Mu) : (lev P (n + 1)).hi f ws m = runFn P (lev P n) f ws m := rfl
theorem lev_lo (P : Pg) (n f : Nat) (ws : List W) (m : Mu) : (lev P (n + 1)).lo f ws m = (lev P n).hi f ws m := rfl
/-- every object holds data alone -/
def MO.fine (n : Nat) (o : MO) : Bool := MO.under n o && o.noL
def Wf (m : Mu) : Prop := ∀ o ∈ m, ∀ n, MO.fine n o = true
theorem cut_wf {m : Mu} {n : Nat} (h : Wf (m.take n)) : cutMu n m = some (m.take n) := by
  unfold cutMu
  rw [List.all_eq_true.mpr fun o ho => (ba (h o ho n)).1]
  rfl
theorem Wf.noL {m : Mu} (h : Wf m) : m.all MO.noL = true := List.all_eq_true.mpr fun o ho => (ba (h o ho 0)).2
theorem isint3 (n : Nat) (m : Mu) (i a b : Int) : (lev pg (n + 1)).hi 29 [.d (.int i), .d (.int a), .d (.int b)] m = .ok (.d (.bl (decide (a ≤ i) && decide (i ≤ b)))) m := by
  rw [lev_hi]
  by_cases h1 : a ≤ i <;> by_cases h2 : i ≤ b <;> simp [runFn, fn29, execs, exec, evI, seqI, seqD, forL, setT, ev, evs, evO, evC, evAnd, evOr, M.bind, M.ret, M.opt, Out.ofR, startE, tru, truth, isiD, ctOk, tyS, isiT, cmpD, eqE, fnEnd, lev_lo, datOf, bltD, binD, unD, Es.len, M.calm, methF, calF, asB, dund, dunName, isiX, aF0, aF1, aF2, aF3, aF4, aF5, aF6, aF7, aF8, aF9, aF10, aF11, aF12, aF13, aF14, aF15, aF16, aF17, aF18, aF19, aF20, aF21, aF22, aF23, aF24, aF25, aF26, aF27, aF28, aF29, aF30, aF31, aF32, aF33, aF34, aG8, aG16, aG20, aG22, aG24, aG25, aG26, aG27, aG28, aG29, aG30, aG31, aG33, aG35, aG37, aC0, aC1, aC2, aC3, aC4, aC5, aC6, aC7, aC8, aC9, aC10, aC11, aC12, aC13, aC14, aC15, aC16, aC17, aC18, aC19, aC20, aC21, aC22, aC23, aC24, aC25, aA0_25, aA0_24, aA0_23, aA0_22, aA0_21, aA0_20, aP0_19, aP0_18, aP0_17, aP0_16, aP0_14, aP0_15, aP0_13, aP0_26, aM0_0, aS0_12, aK0, h1, h2]
theorem isint2 (n : Nat) (m : Mu) (i a : Int) : (lev pg (n + 1)).hi 29 [.d (.int i), .d (.int a), .d .non] m = .ok (.d (.bl (decide (a ≤ i)))) m := by
  rw [lev_hi]
  by_cases h1 : a ≤ i <;> simp [runFn, fn29, execs, exec, evI, seqI, seqD, forL, setT, ev, evs, evO, evC, evAnd, evOr, M.bind, M.ret, M.opt, Out.ofR, startE, tru, truth, isiD, ctOk, tyS, isiT, cmpD, eqE, fnEnd, lev_lo, datOf, bltD, binD, unD, Es.len, M.calm, methF, calF, asB, dund, dunName, isiX, aF0, aF1, aF2, aF3, aF4, aF5, aF6, aF7, aF8, aF9, aF10, aF11, aF12, aF13, aF14, aF15, aF16, aF17, aF18, aF19, aF20, aF21, aF22, aF23, aF24, aF25, aF26, aF27, aF28, aF29, aF30, aF31, aF32, aF33, aF34, aG8, aG16, aG20, aG22, aG24, aG25, aG26, aG27, aG28, aG29, aG30, aG31, aG33, aG35, aG37, aC0, aC1, aC2, aC3, aC4, aC5, aC6, aC7, aC8, aC9, aC10, aC11, aC12, aC13, aC14, aC15, aC16, aC17, aC18, aC19, aC20, aC21, aC22, aC23, aC24, aC25, aA0_25, aA0_24, aA0_23, aA0_22, aA0_21, aA0_20, aP0_19, aP0_18, aP0_17, aP0_16, aP0_14, aP0_15, aP0_13, aP0_26, aM0_0, aS0_12, aK0, h1]
theorem isint1 (n : Nat) (m : Mu) (i : Int) : (lev pg (n + 1)).hi 29 [.d (.int i), .d .non, .d .non] m = .ok (.d (.bl true)) m := by
  rw [lev_hi]
  simp [runFn, fn29, execs, exec, evI, seqI, seqD, forL, setT, ev, evs, evO, evC, evAnd, evOr, M.bind, M.ret, M.opt, Out.ofR, startE, tru, truth, isiD, ctOk, tyS, isiT, cmpD, eqE, fnEnd, lev_lo, datOf, bltD, binD, unD, Es.len, M.calm, methF, calF, asB, dund, dunName, isiX, aF0, aF1, aF2, aF3, aF4, aF5, aF6, aF7, aF8, aF9, aF10, aF11, aF12, aF13, aF14, aF15, aF16, aF17, aF18, aF19, aF20, aF21, aF22, aF23, aF24, aF25, aF26, aF27, aF28, aF29, aF30, aF31, aF32, aF33, aF34, aG8, aG16, aG20, aG22, aG24, aG25, aG26, aG27, aG28, aG29, aG30, aG31, aG33, aG35, aG37, aC0, aC1, aC2, aC3, aC4, aC5, aC6, aC7, aC8, aC9, aC10, aC11, aC12, aC13, aC14, aC15, aC16, aC17, aC18, aC19, aC20, aC21, aC22, aC23, aC24, aC25, aA0_25, aA0_24, aA0_23, aA0_22, aA0_21, aA0_20, aP0_19, aP0_18, aP0_17, aP0_16, aP0_14, aP0_15, aP0_13, aP0_26, aM0_0, aS0_12, aK0]
abbrev tieD (f s l a : Int) (d b : Bool) : D := .ins 0 [.int f, .int s, .int l, .int a, .bl d, .bl b]
theorem fld (m : Mu) (x y : MO) : (m ++ [x]).set m.length y = m ++ [y] := by simp
theorem init_ok (n : Nat) (m : Mu) (f s l a : Int) (d b : Bool) (hf : 0 ≤ f) (hs : 0 ≤ s) (h1 : 1 ≤ l) (h2 : l ≤ 10 ^ 30 - (if s > f then s else f)) :
    (lev pg (n + 2)).hi 19 [.r m.length, .d (.int f), .d (.int s), .d (.int l), .d (.int a), .d (.bl d), .d (.bl b)] (m ++ [.ins 0 []]) = .ok (.d .non) (m ++ [.ins 0 [(25, .d (.int f)), (24, .d (.int s)), (23, .d (.int l)), (22, .d (.int a)), (21, .d (.bl d)), (20, .d (.bl (b && decide (1 < l))))]]) := by
  rw [lev_hi]
  have h3 : l ≤ 1000000000000000000000000000000 - (if f < s then s else f) := h2
  cases b <;> by_cases h4 : 1 < l <;> simp [runFn, fn19, isint1, isint2, isint3, putW, pgCls0, fld, execs, exec, evI, seqI, seqD, forL, setT, ev, evs, evO, evC, evAnd, evOr, M.bind, M.ret, M.opt, Out.ofR, startE, tru, truth, isiD, ctOk, tyS, isiT, cmpD, eqE, fnEnd, lev_lo, datOf, bltD, binD, unD, Es.len, M.calm, methF, calF, asB, dund, dunName, isiX, aF0, aF1, aF2, aF3, aF4, aF5, aF6, aF7, aF8, aF9, aF10, aF11, aF12, aF13, aF14, aF15, aF16, aF17, aF18, aF19, aF20, aF21, aF22, aF23, aF24, aF25, aF26, aF27, aF28, aF29, aF30, aF31, aF32, aF33, aF34, aG8, aG16, aG20, aG22, aG24, aG25, aG26, aG27, aG28, aG29, aG30, aG31, aG33, aG35, aG37, aC0, aC1, aC2, aC3, aC4, aC5, aC6, aC7, aC8, aC9, aC10, aC11, aC12, aC13, aC14, aC15, aC16, aC17, aC18, aC19, aC20, aC21, aC22, aC23, aC24, aC25, aA0_25, aA0_24, aA0_23, aA0_22, aA0_21, aA0_20, aP0_19, aP0_18, aP0_17, aP0_16, aP0_14, aP0_15, aP0_13, aP0_26, aM0_0, aS0_12, aK0, hf, hs, h1, h3, h4]
theorem mk_tie (n : Nat) (m : Mu) (hm : Wf m) (f s l a : Int) (d b : Bool) (hf : 0 ≤ f) (hs : 0 ≤ s) (h1 : 1 ≤ l) (h2 : l ≤ 10 ^ 30 - (if s > f then s else f)) :
    mkObj pg (lev pg (n + 3)) 0 [.d (.int f), .d (.int s), .d (.int l), .d (.int a), .d (.bl d), .d (.bl b)] m = .ok (.d (tieD f s l a d (b && decide (1 < l)))) m := by
  have hc : ∀ x, cutMu m.length (m ++ [x]) = some m := fun x => by
    have e : (m ++ [x]).take m.length = m := by simp
    rw [cut_wf (by rw [e]; exact hm), e]
  simp [mkObj, aK0, pgCls0, lev_lo, init_ok n m f s l a d b hf hs h1 h2, fieldsOf, hc, List.lookup]
abbrev rowD (f s l a : Int) (d b : Bool) : D := .tup [.int f, .int s, .int l, .int a, .bl d, .bl b]

section
variable (n : Nat) (m : Mu) (f s l a : Int) (d b : Bool)
theorem p_first : (lev pg (n + 1)).hi 20 [.d (tieD f s l a d b)] m = .ok (.d (.int f)) m := by rw [lev_hi]; simp [runFn, fn20, execs, exec, evI, seqI, seqD, forL, setT, ev, evs, evO, evC, evAnd, evOr, M.bind, M.ret, M.opt, Out.ofR, startE, tru, truth, isiD, ctOk, tyS, isiT, cmpD, eqE, fnEnd, lev_lo, datOf, bltD, binD, unD, Es.len, M.calm, methF, calF, asB, dund, dunName, isiX, aF0, aF1, aF2, aF3, aF4, aF5, aF6, aF7, aF8, aF9, aF10, aF11, aF12, aF13, aF14, aF15, aF16, aF17, aF18, aF19, aF20, aF21, aF22, aF23, aF24, aF25, aF26, aF27, aF28, aF29, aF30, aF31, aF32, aF33, aF34, aG8, aG16, aG20, aG22, aG24, aG25, aG26, aG27, aG28, aG29, aG30, aG31, aG33, aG35, aG37, aC0, aC1, aC2, aC3, aC4, aC5, aC6, aC7, aC8, aC9, aC10, aC11, aC12, aC13, aC14, aC15, aC16, aC17, aC18, aC19, aC20, aC21, aC22, aC23, aC24, aC25, aA0_25, aA0_24, aA0_23, aA0_22, aA0_21, aA0_20, aP0_19, aP0_18, aP0_17, aP0_16, aP0_14, aP0_15, aP0_13, aP0_26, aM0_0, aS0_12, aK0]
theorem p_second : (lev pg (n + 1)).hi 21 [.d (tieD f s l a d b)] m = .ok (.d (.int s)) m := by rw [lev_hi]; simp [runFn, fn21, execs, exec, evI, seqI, seqD, forL, setT, ev, evs, evO, evC, evAnd, evOr, M.bind, M.ret, M.opt, Out.ofR, startE, tru, truth, isiD, ctOk, tyS, isiT, cmpD, eqE, fnEnd, lev_lo, datOf, bltD, binD, unD, Es.len, M.calm, methF, calF, asB, dund, dunName, isiX, aF0, aF1, aF2, aF3, aF4, aF5, aF6, aF7, aF8, aF9, aF10, aF11, aF12, aF13, aF14, aF15, aF16, aF17, aF18, aF19, aF20, aF21, aF22, aF23, aF24, aF25, aF26, aF27, aF28, aF29, aF30, aF31, aF32, aF33, aF34, aG8, aG16, aG20, aG22, aG24, aG25, aG26, aG27, aG28, aG29, aG30, aG31, aG33, aG35, aG37, aC0, aC1, aC2, aC3, aC4, aC5, aC6, aC7, aC8, aC9, aC10, aC11, aC12, aC13, aC14, aC15, aC16, aC17, aC18, aC19, aC20, aC21, aC22, aC23, aC24, aC25, aA0_25, aA0_24, aA0_23, aA0_22, aA0_21, aA0_20, aP0_19, aP0_18, aP0_17, aP0_16, aP0_14, aP0_15, aP0_13, aP0_26, aM0_0, aS0_12, aK0]
theorem p_length : (lev pg (n + 1)).hi 22 [.d (tieD f s l a d b)] m = .ok (.d (.int l)) m := by rw [lev_hi]; simp [runFn, fn22, execs, exec, evI, seqI, seqD, forL, setT, ev, evs, evO, evC, evAnd, evOr, M.bind, M.ret, M.opt, Out.ofR, startE, tru, truth, isiD, ctOk, tyS, isiT, cmpD, eqE, fnEnd, lev_lo, datOf, bltD, binD, unD, Es.len, M.calm, methF, calF, asB, dund, dunName, isiX, aF0, aF1, aF2, aF3, aF4, aF5, aF6, aF7, aF8, aF9, aF10, aF11, aF12, aF13, aF14, aF15, aF16, aF17, aF18, aF19, aF20, aF21, aF22, aF23, aF24, aF25, aF26, aF27, aF28, aF29, aF30, aF31, aF32, aF33, aF34, aG8, aG16, aG20, aG22, aG24, aG25, aG26, aG27, aG28, aG29, aG30, aG31, aG33, aG35, aG37, aC0, aC1, aC2, aC3, aC4, aC5, aC6, aC7, aC8, aC9, aC10, aC11, aC12, aC13, aC14, aC15, aC16, aC17, aC18, aC19, aC20, aC21, aC22, aC23, aC24, aC25, aA0_25, aA0_24, aA0_23, aA0_22, aA0_21, aA0_20, aP0_19, aP0_18, aP0_17, aP0_16, aP0_14, aP0_15, aP0_13, aP0_26, aM0_0, aS0_12, aK0]
theorem p_amount : (lev pg (n + 1)).hi 23 [.d (tieD f s l a d b)] m = .ok (.d (.int a)) m := by rw [lev_hi]; simp [runFn, fn23, execs, exec, evI, seqI, seqD, forL, setT, ev, evs, evO, evC, evAnd, evOr, M.bind, M.ret, M.opt, Out.ofR, startE, tru, truth, isiD, ctOk, tyS, isiT, cmpD, eqE, fnEnd, lev_lo, datOf, bltD, binD, unD, Es.len, M.calm, methF, calF, asB, dund, dunName, isiX, aF0, aF1, aF2, aF3, aF4, aF5, aF6, aF7, aF8, aF9, aF10, aF11, aF12, aF13, aF14, aF15, aF16, aF17, aF18, aF19, aF20, aF21, aF22, aF23, aF24, aF25, aF26, aF27, aF28, aF29, aF30, aF31, aF32, aF33, aF34, aG8, aG16, aG20, aG22, aG24, aG25, aG26, aG27, aG28, aG29, aG30, aG31, aG33, aG35, aG37, aC0, aC1, aC2, aC3, aC4, aC5, aC6, aC7, aC8, aC9, aC10, aC11, aC12, aC13, aC14, aC15, aC16, aC17, aC18, aC19, aC20, aC21, aC22, aC23, aC24, aC25, aA0_25, aA0_24, aA0_23, aA0_22, aA0_21, aA0_20, aP0_19, aP0_18, aP0_17, aP0_16, aP0_14, aP0_15, aP0_13, aP0_26, aM0_0, aS0_12, aK0]
theorem p_down : (lev pg (n + 1)).hi 24 [.d (tieD f s l a d b)] m = .ok (.d (.bl d)) m := by rw [lev_hi]; simp [runFn, fn24, execs, exec, evI, seqI, seqD, forL, setT, ev, evs, evO, evC, evAnd, evOr, M.bind, M.ret, M.opt, Out.ofR, startE, tru, truth, isiD, ctOk, tyS, isiT, cmpD, eqE, fnEnd, lev_lo, datOf, bltD, binD, unD, Es.len, M.calm, methF, calF, asB, dund, dunName, isiX, aF0, aF1, aF2, aF3, aF4, aF5, aF6, aF7, aF8, aF9, aF10, aF11, aF12, aF13, aF14, aF15, aF16, aF17, aF18, aF19, aF20, aF21, aF22, aF23, aF24, aF25, aF26, aF27, aF28, aF29, aF30, aF31, aF32, aF33, aF34, aG8, aG16, aG20, aG22, aG24, aG25, aG26, aG27, aG28, aG29, aG30, aG31, aG33, aG35, aG37, aC0, aC1, aC2, aC3, aC4, aC5, aC6, aC7, aC8, aC9, aC10, aC11, aC12, aC13, aC14, aC15, aC16, aC17, aC18, aC19, aC20, aC21, aC22, aC23, aC24, aC25, aA0_25, aA0_24, aA0_23, aA0_22, aA0_21, aA0_20, aP0_19, aP0_18, aP0_17, aP0_16, aP0_14, aP0_15, aP0_13, aP0_26, aM0_0, aS0_12, aK0]
theorem p_backward : (lev pg (n + 1)).hi 25 [.d (tieD f s l a d b)] m = .ok (.d (.bl b)) m := by rw [lev_hi]; simp [runFn, fn25, execs, exec, evI, seqI, seqD, forL, setT, ev, evs, evO, evC, evAnd, evOr, M.bind, M.ret, M.opt, Out.ofR, startE, tru, truth, isiD, ctOk, tyS, isiT, cmpD, eqE, fnEnd, lev_lo, datOf, bltD, binD, unD, Es.len, M.calm, methF, calF, asB, dund, dunName, isiX, aF0, aF1, aF2, aF3, aF4, aF5, aF6, aF7, aF8, aF9, aF10, aF11, aF12, aF13, aF14, aF15, aF16, aF17, aF18, aF19, aF20, aF21, aF22, aF23, aF24, aF25, aF26, aF27, aF28, aF29, aF30, aF31, aF32, aF33, aF34, aG8, aG16, aG20, aG22, aG24, aG25, aG26, aG27, aG28, aG29, aG30, aG31, aG33, aG35, aG37, aC0, aC1, aC2, aC3, aC4, aC5, aC6, aC7, aC8, aC9, aC10, aC11, aC12, aC13, aC14, aC15, aC16, aC17, aC18, aC19, aC20, aC21, aC22, aC23, aC24, aC25, aA0_25, aA0_24, aA0_23, aA0_22, aA0_21, aA0_20, aP0_19, aP0_18, aP0_17, aP0_16, aP0_14, aP0_15, aP0_13, aP0_26, aM0_0, aS0_12, aK0]
end

section
variable (n : Nat) (m : Mu) (f s l a : Int) (d b : Bool)
theorem p_mark : (lev pg (n + 3)).hi 33 [.d (tieD f s l a d b)] m = .ok (.d (rowD f s l a d b)) m := by
  rw [lev_hi]
  simp [runFn, fn33, p_first, p_second, p_length, p_amount, p_down, p_backward, execs, exec, evI, seqI, seqD, forL, setT, ev, evs, evO, evC, evAnd, evOr, M.bind, M.ret, M.opt, Out.ofR, startE, tru, truth, isiD, ctOk, tyS, isiT, cmpD, eqE, fnEnd, lev_lo, datOf, bltD, binD, unD, Es.len, M.calm, methF, calF, asB, dund, dunName, isiX, aF0, aF1, aF2, aF3, aF4, aF5, aF6, aF7, aF8, aF9, aF10, aF11, aF12, aF13, aF14, aF15, aF16, aF17, aF18, aF19, aF20, aF21, aF22, aF23, aF24, aF25, aF26, aF27, aF28, aF29, aF30, aF31, aF32, aF33, aF34, aG8, aG16, aG20, aG22, aG24, aG25, aG26, aG27, aG28, aG29, aG30, aG31, aG33, aG35, aG37, aC0, aC1, aC2, aC3, aC4, aC5, aC6, aC7, aC8, aC9, aC10, aC11, aC12, aC13, aC14, aC15, aC16, aC17, aC18, aC19, aC20, aC21, aC22, aC23, aC24, aC25, aA0_25, aA0_24, aA0_23, aA0_22, aA0_21, aA0_20, aP0_19, aP0_18, aP0_17, aP0_16, aP0_14, aP0_15, aP0_13, aP0_26, aM0_0, aS0_12, aK0]
end

/-! ### the law's pots -/
theorem sm_of {i : Int} (h : i.natAbs < 2 ^ 1000) : Sm i = true := by
  unfold Sm
  refine decide_eq_true (Nat.lt_of_lt_of_le h ?_)
  exact Nat.pow_le_pow_right (by decide) (by decide)
def PotV (x : MO) (K : Int) : Prop := ∃ a b c : Int, x = .lst [.d (.int a), .d (.int b), .d (.int c)] ∧ 0 ≤ a ∧ a < 2 ^ 1000 ∧ 0 ≤ b ∧ b < 2 ^ 62 ∧ 0 ≤ c ∧ c ≤ K
theorem ix0 : L2.ixN 3 0 = some 0 := by decide
theorem ix1 : L2.ixN 3 1 = some 1 := by decide
theorem ix2 : L2.ixN 3 2 = some 2 := by decide
theorem take_own (n : Nat) (m : Mu) (p : Nat) (a b c u : Int) (hx : m[p]? = some (.lst [.d (.int a), .d (.int b), .d (.int c)])) (ha : 0 < a) (hu : 0 < u) (su : Sm u = true) :
    (lev pg (n + 1)).hi 13 [.r p, .d (.int u)] m = .ok (.d (.int (a % u))) (m.set p (.lst [.d (.int (a / u)), .d (.int b), .d (.int c)])) := by
  rw [lev_hi]
  simp [runFn, fn13, execs, exec, evI, seqI, seqD, forL, setT, ev, evs, evO, evC, evAnd, evOr, M.bind, M.ret, M.opt, Out.ofR, startE, tru, truth, isiD, ctOk, tyS, isiT, cmpD, eqE, fnEnd, lev_lo, datOf, bltD, binD, unD, Es.len, M.calm, methF, calF, asB, dund, dunName, isiX, aF0, aF1, aF2, aF3, aF4, aF5, aF6, aF7, aF8, aF9, aF10, aF11, aF12, aF13, aF14, aF15, aF16, aF17, aF18, aF19, aF20, aF21, aF22, aF23, aF24, aF25, aF26, aF27, aF28, aF29, aF30, aF31, aF32, aF33, aF34, aG8, aG16, aG20, aG22, aG24, aG25, aG26, aG27, aG28, aG29, aG30, aG31, aG33, aG35, aG37, aC0, aC1, aC2, aC3, aC4, aC5, aC6, aC7, aC8, aC9, aC10, aC11, aC12, aC13, aC14, aC15, aC16, aC17, aC18, aC19, aC20, aC21, aC22, aC23, aC24, aC25, aA0_25, aA0_24, aA0_23, aA0_22, aA0_21, aA0_20, aP0_19, aP0_18, aP0_17, aP0_16, aP0_14, aP0_15, aP0_13, aP0_26, aM0_0, aS0_12, aK0, hx, subD, seqOf, ix0, ix1, ix2, ha, hu, su]
def mixV (b c q u : Int) : Int := ((((b + 100169 * c * c + 53) ^ 3 % q) * (((b + 100169 * c * c + 53) ^ 3 % q) % 10039 + 97 * c)) % 2305843009213693907 / 127) % u
theorem take_mix (n : Nat) (m : Mu) (p : Nat) (a b c u q : Int) (hx : m[p]? = some (.lst [.d (.int a), .d (.int b), .d (.int c)])) (ha : ¬ 0 < a) (hu : 0 < u) (su : Sm u = true) (hq0 : 0 < q)
    (hq : ∀ m', subD (.d (.lst [.int 2147483647, .int 2147483629, .int 2147483587, .int 2147483579, .int 2147483563])) (.d (.int ((c + 1) % 5))) m' = some (.d (.int q)))
    (s1 : Sm (c + 1) = true) (s2 : Sm (100169 * (c + 1)) = true) (s3 : (b + 100169 * (c + 1) * (c + 1) + 53).natAbs < 2 ^ 1000) (s4 : Sm ((b + 100169 * (c + 1) * (c + 1) + 53) ^ 3 % q) = true) (s5 : Sm (((b + 100169 * (c + 1) * (c + 1) + 53) ^ 3 % q) % 10039 + 97 * (c + 1)) = true) :
    (lev pg (n + 1)).hi 13 [.r p, .d (.int u)] m = .ok (.d (.int (mixV b (c + 1) q u))) (m.set p (.lst [.d (.int a), .d (.int b), .d (.int (c + 1))])) := by
  have hp : p < m.length := (List.getElem?_eq_some_iff.mp hx).1
  have k1 : Sm 100169 = true := by decide
  have k2 : Sm 97 = true := by decide
  have k3 : Sm 127 = true := by decide
  have e1 : ∀ y, (m.set p y)[p]? = some y := fun y => List.getElem?_set_self hp
  have g : ∀ (i : W), subD (.r p) i m = (match i with | .d (.int k) => (ix 3 k).bind fun j => [W.d (.int a), .d (.int b), .d (.int c)][j]? | _ => none) := fun i => by
    unfold subD
    split <;> simp_all [seqOf]
  have g2 : ∀ (i : W), subD (.r p) i (m.set p (.lst [.d (.int a), .d (.int b), .d (.int (c + 1))])) = (match i with | .d (.int k) => (ix 3 k).bind fun j => [W.d (.int a), .d (.int b), .d (.int (c + 1))][j]? | _ => none) := fun i => by
    unfold subD
    split <;> simp_all [seqOf]
  rw [lev_hi]
  simp [runFn, fn13, execs, exec, evI, seqI, seqD, forL, setT, ev, evs, evO, evC, evAnd, evOr, M.bind, M.ret, M.opt, Out.ofR, startE, tru, truth, isiD, ctOk, tyS, isiT, cmpD, eqE, fnEnd, lev_lo, datOf, bltD, binD, unD, Es.len, M.calm, methF, calF, asB, dund, dunName, isiX, aF0, aF1, aF2, aF3, aF4, aF5, aF6, aF7, aF8, aF9, aF10, aF11, aF12, aF13, aF14, aF15, aF16, aF17, aF18, aF19, aF20, aF21, aF22, aF23, aF24, aF25, aF26, aF27, aF28, aF29, aF30, aF31, aF32, aF33, aF34, aG8, aG16, aG20, aG22, aG24, aG25, aG26, aG27, aG28, aG29, aG30, aG31, aG33, aG35, aG37, aC0, aC1, aC2, aC3, aC4, aC5, aC6, aC7, aC8, aC9, aC10, aC11, aC12, aC13, aC14, aC15, aC16, aC17, aC18, aC19, aC20, aC21, aC22, aC23, aC24, aC25, aA0_25, aA0_24, aA0_23, aA0_22, aA0_21, aA0_20, aP0_19, aP0_18, aP0_17, aP0_16, aP0_14, aP0_15, aP0_13, aP0_26, aM0_0, aS0_12, aK0, hx, g, g2, hq, ix0, ix1, ix2, ha, hu, su, hq0, k1, k2, k3, s1, s2, s3, s4, s5, mixV]
theorem take_ok (n : Nat) (m : Mu) (p : Nat) (K u : Int) (x : MO) (hx : m[p]? = some x) (hv : PotV x K) (hK : K < 2 ^ 40) (hu : 0 < u) (hu2 : u < 2 ^ 200) :
    ∃ d y, (lev pg (n + 1)).hi 13 [.r p, .d (.int u)] m = .ok (.d (.int d)) (m.set p y) ∧ 0 ≤ d ∧ d < u ∧ PotV y (K + 1) := by
  obtain ⟨a, b, c, rfl, a0, a1, b0, b1, c0, c1⟩ := hv
  have big : (2 : Int) ^ 200 ≤ 2 ^ 1000 := by decide +kernel
  have small : ∀ {i : Int}, 0 ≤ i → i < 2 ^ 200 → i.natAbs < 2 ^ 1000 := fun {i} h1 h2 => by
    have h3 : i < 2 ^ 1000 := Int.lt_of_lt_of_le h2 big
    have h4 : ((i.natAbs : Nat) : Int) = i := Int.natAbs_of_nonneg h1
    have h5 : ((i.natAbs : Nat) : Int) < ((2 ^ 1000 : Nat) : Int) := by
      rw [h4]
      exact h3
    exact Int.ofNat_lt.mp h5
  have su := sm_of (small (Int.le_of_lt hu) hu2)
  by_cases ha : 0 < a
  · refine ⟨_, _, take_own n m p a b c u hx ha hu su, Int.emod_nonneg _ (by omega), Int.emod_lt_of_pos _ hu, a / u, b, c, rfl, Int.ediv_nonneg a0 (by omega), ?_, b0, b1, c0, by omega⟩
    have := Int.ediv_le_self u a0
    omega
  · have p40 : (2 : Int) ^ 40 = 1099511627776 := by decide
    have p62 : (2 : Int) ^ 62 = 4611686018427387904 := by decide
    have p200 : (2 : Int) ^ 200 = 1606938044258990275541962092341162602522202993782792835301376 := by decide
    have hc : 0 ≤ c + 1 := by omega
    have hc2 : c + 1 ≤ 1099511627776 := by omega
    have sq0 : 0 ≤ (c + 1) * (c + 1) := Int.mul_nonneg hc hc
    have sq1 : (c + 1) * (c + 1) ≤ 1099511627776 * 1099511627776 := Int.mul_le_mul hc2 hc2 hc (by decide)
    have e1 : 100169 * (c + 1) * (c + 1) = 100169 * ((c + 1) * (c + 1)) := Int.mul_assoc _ _ _
    have hq : ∃ q : Int, 0 < q ∧ q < 2147483648 ∧ ∀ m', subD (.d (.lst [.int 2147483647, .int 2147483629, .int 2147483587, .int 2147483579, .int 2147483563])) (.d (.int ((c + 1) % 5))) m' = some (.d (.int q)) := by
      have h5 : (c + 1) % 5 = 0 ∨ (c + 1) % 5 = 1 ∨ (c + 1) % 5 = 2 ∨ (c + 1) % 5 = 3 ∨ (c + 1) % 5 = 4 := by omega
      rcases h5 with h | h | h | h | h <;> rw [h]
      · exact ⟨2147483647, by decide, by decide, fun _ => rfl⟩
      · exact ⟨2147483629, by decide, by decide, fun _ => rfl⟩
      · exact ⟨2147483587, by decide, by decide, fun _ => rfl⟩
      · exact ⟨2147483579, by decide, by decide, fun _ => rfl⟩
      · exact ⟨2147483563, by decide, by decide, fun _ => rfl⟩
    obtain ⟨q, q0, q1, hq⟩ := hq
    have m0 := Int.emod_nonneg ((b + 100169 * (c + 1) * (c + 1) + 53) ^ 3) (show q ≠ 0 by omega)
    have m1 := Int.emod_lt_of_pos ((b + 100169 * (c + 1) * (c + 1) + 53) ^ 3) q0
    have n0 := Int.emod_nonneg ((b + 100169 * (c + 1) * (c + 1) + 53) ^ 3 % q) (show (10039 : Int) ≠ 0 by decide)
    have n1 := Int.emod_lt_of_pos ((b + 100169 * (c + 1) * (c + 1) + 53) ^ 3 % q) (show (0 : Int) < 10039 by decide)
    refine ⟨_, _, take_mix n m p a b c u q hx ha hu su q0 hq (sm_of (small hc (by omega))) (sm_of (small (by omega) (by omega))) (small (by rw [e1]; omega) (by rw [e1]; omega)) (sm_of (small m0 (by omega))) (sm_of (small (by omega) (by omega))), Int.emod_nonneg _ (by omega), Int.emod_lt_of_pos _ hu, a, b, c + 1, rfl, a0, a1, b0, b1, hc, by omega⟩
theorem PotV.under {x : MO} {K : Int} (h : PotV x K) (n : Nat) : MO.fine n x = true := by
  obtain ⟨a, b, c, rfl, _⟩ := h
  rfl
theorem PotV.le {x : MO} {K K' : Int} (h : PotV x K) (e : K ≤ K') : PotV x K' := by
  obtain ⟨a, b, c, rfl, h1, h2, h3, h4, h5, h6⟩ := h
  exact ⟨a, b, c, rfl, h1, h2, h3, h4, h5, by omega⟩
theorem set_wf {m : Mu} {p : Nat} {x : MO} {K : Int} (hm : Wf m) (h : PotV x K) : Wf (m.set p x) := fun o ho n => by
  rcases List.mem_or_eq_of_mem_set ho with z | z
  · exact hm o z n
  · rw [z]
    exact h.under n
/-- one of the listed ones -/
theorem of_ok (n : Nat) (m : Mu) (p : Nat) (K : Int) (x : MO) (l : List D) (hx : m[p]? = some x) (hv : PotV x K) (hK : K < 2 ^ 40) (hl : 0 < l.length) (hl2 : l.length ≤ 100) :
    ∃ d y, (lev pg (n + 2)).hi 9 [.r p, .d (.lst l)] m = .ok (.d d) (m.set p y) ∧ d ∈ l ∧ PotV y (K + 1) := by
  have hb : ((100 : Int)) < 2 ^ 200 := by decide
  obtain ⟨i, y, e, h1, h2, h3⟩ := take_ok n m p K l.length x hx hv hK (by omega) (by omega)
  obtain ⟨j, hj⟩ : ∃ j : Nat, i = j := ⟨i.toNat, by omega⟩
  subst hj
  have hj : j < l.length := by omega
  refine ⟨l[j], y, ?_, List.getElem_mem hj, h3⟩
  have e2 : L2.ixN l.length (j : Int) = some j := by
    unfold L2.ixN
    rw [if_pos (by omega), if_pos (by omega)]
    simp
  have e3 : (l.map W.d)[j]? = some (.d l[j]) := by rw [List.getElem?_map, List.getElem?_eq_getElem hj]; rfl
  rw [lev_hi]
  simp [runFn, fn9, execs, exec, evI, seqI, seqD, forL, setT, ev, evs, evO, evC, evAnd, evOr, M.bind, M.ret, M.opt, Out.ofR, startE, tru, truth, isiD, ctOk, tyS, isiT, cmpD, eqE, fnEnd, lev_lo, datOf, bltD, binD, unD, Es.len, M.calm, methF, calF, asB, dund, dunName, isiX, aF0, aF1, aF2, aF3, aF4, aF5, aF6, aF7, aF8, aF9, aF10, aF11, aF12, aF13, aF14, aF15, aF16, aF17, aF18, aF19, aF20, aF21, aF22, aF23, aF24, aF25, aF26, aF27, aF28, aF29, aF30, aF31, aF32, aF33, aF34, aG8, aG16, aG20, aG22, aG24, aG25, aG26, aG27, aG28, aG29, aG30, aG31, aG33, aG35, aG37, aC0, aC1, aC2, aC3, aC4, aC5, aC6, aC7, aC8, aC9, aC10, aC11, aC12, aC13, aC14, aC15, aC16, aC17, aC18, aC19, aC20, aC21, aC22, aC23, aC24, aC25, aA0_25, aA0_24, aA0_23, aA0_22, aA0_21, aA0_20, aP0_19, aP0_18, aP0_17, aP0_16, aP0_14, aP0_15, aP0_13, aP0_26, aM0_0, aS0_12, aK0, seqOf, subD, e, e2, e3, hj]

/-! ### the law's rows and ties -/
/-- a draw from the pot at p: what comes, the new pot -/
theorem take2 (n : Nat) (m : Mu) (p : Nat) (K u : Int) (y : MO) (hp : p < m.length) (hv : PotV y K) (hK : K < 2 ^ 40) (hu : 0 < u) (hu2 : u < 2 ^ 200) :
    ∃ d z, (lev pg (n + 1)).hi 13 [.r p, .d (.int u)] (m.set p y) = .ok (.d (.int d)) (m.set p z) ∧ 0 ≤ d ∧ d < u ∧ PotV z (K + 1) := by
  obtain ⟨d, z, e, h1, h2, h3⟩ := take_ok n (m.set p y) p K u y (List.getElem?_set_self hp) hv hK hu hu2
  rw [List.set_set] at e
  exact ⟨d, z, e, h1, h2, h3⟩
theorem of2 (n : Nat) (m : Mu) (p : Nat) (K : Int) (y : MO) (l : List D) (hp : p < m.length) (hv : PotV y K) (hK : K < 2 ^ 40) (hl : 0 < l.length) (hl2 : l.length ≤ 100) :
    ∃ d z, (lev pg (n + 2)).hi 9 [.r p, .d (.lst l)] (m.set p y) = .ok (.d d) (m.set p z) ∧ d ∈ l ∧ PotV z (K + 1) := by
  obtain ⟨d, z, e, h1, h2⟩ := of_ok n (m.set p y) p K y l (List.getElem?_set_self hp) hv hK hl hl2
  rw [List.set_set] at e
  exact ⟨d, z, e, h1, h2⟩
theorem amount2 (n : Nat) (m : Mu) (p : Nat) (K : Int) (y : MO) (hp : p < m.length) (hv : PotV y K) (hK : K < 2 ^ 40) :
    ∃ a z, (lev pg (n + 3)).hi 17 [.r p] (m.set p y) = .ok (.d (.int a)) (m.set p z) ∧ -(10 ^ 35) ≤ a ∧ a ≤ 10 ^ 35 ∧ PotV z (K + 1) := by
  obtain ⟨d, z, e, h1, h2⟩ := of2 n m p K y [.int 0, .int 0, .int 1, .int (-1), .int 2, .int 5, .int (-7), .int 12, .int 100000000000000000000000000000000000] hp hv hK (by decide) (by decide)
  have r : (lev pg (n + 3)).hi 17 [.r p] (m.set p y) = .ok (.d d) (m.set p z) := by
    rw [lev_hi]
    simp [runFn, fn17, execs, exec, evI, seqI, seqD, forL, setT, ev, evs, evO, evC, evAnd, evOr, M.bind, M.ret, M.opt, Out.ofR, startE, tru, truth, isiD, ctOk, tyS, isiT, cmpD, eqE, fnEnd, lev_lo, datOf, bltD, binD, unD, Es.len, M.calm, methF, calF, asB, dund, dunName, isiX, aF0, aF1, aF2, aF3, aF4, aF5, aF6, aF7, aF8, aF9, aF10, aF11, aF12, aF13, aF14, aF15, aF16, aF17, aF18, aF19, aF20, aF21, aF22, aF23, aF24, aF25, aF26, aF27, aF28, aF29, aF30, aF31, aF32, aF33, aF34, aG8, aG16, aG20, aG22, aG24, aG25, aG26, aG27, aG28, aG29, aG30, aG31, aG33, aG35, aG37, aC0, aC1, aC2, aC3, aC4, aC5, aC6, aC7, aC8, aC9, aC10, aC11, aC12, aC13, aC14, aC15, aC16, aC17, aC18, aC19, aC20, aC21, aC22, aC23, aC24, aC25, aA0_25, aA0_24, aA0_23, aA0_22, aA0_21, aA0_20, aP0_19, aP0_18, aP0_17, aP0_16, aP0_14, aP0_15, aP0_13, aP0_26, aM0_0, aS0_12, aK0, e]
  have p35 : (10 : Int) ^ 35 = 100000000000000000000000000000000000 := by decide
  have h : ∃ a : Int, d = .int a ∧ -(10 ^ 35) ≤ a ∧ a ≤ 10 ^ 35 := by
    simp only [List.mem_cons, List.not_mem_nil, or_false] at h1
    rcases h1 with h | h | h | h | h | h | h | h | h <;> exact ⟨_, h, by omega, by omega⟩
  obtain ⟨a, rfl, h3, h4⟩ := h
  exact ⟨a, z, r, h3, h4, h2⟩
theorem row2 (n : Nat) (m : Mu) (p : Nat) (K z : Int) (y : MO) (hp : p < m.length) (hv : PotV y K) (hK : K + 10 < 2 ^ 40) (hz : 1 ≤ z) (hz2 : z ≤ 1000) :
    ∃ f s l a d b x, (lev pg (n + 4)).hi 10 [.r p, .d (.int z)] (m.set p y) = .ok (.d (rowD f s l a d b)) (m.set p x) ∧ 1 ≤ l ∧ l ≤ z ∧ 0 ≤ f ∧ f ≤ z - l ∧ 0 ≤ s ∧ s ≤ z - l ∧ -(10 ^ 35) ≤ a ∧ a ≤ 10 ^ 35 ∧ (b = true → 1 < l) ∧ PotV x (K + 6) := by
  have p200 : (2 : Int) ^ 200 = 1606938044258990275541962092341162602522202993782792835301376 := by decide
  obtain ⟨l, y1, e1, l0, l1, v1⟩ := take2 (n + 2) m p K z y hp hv (by omega) (by omega) (by omega)
  obtain ⟨f, y2, e2, f0, f1, v2⟩ := take2 (n + 2) m p _ (z - (1 + l) + 1) y1 hp v1 (by omega) (by omega) (by omega)
  obtain ⟨s, y3, e3, s0, s1, v3⟩ := take2 (n + 2) m p _ (z - (1 + l) + 1) y2 hp v2 (by omega) (by omega) (by omega)
  obtain ⟨a, y4, e4, a0, a1, v4⟩ := amount2 n m p _ y3 hp v3 (by omega)
  obtain ⟨t, y5, e5, t0, t1, v5⟩ := take2 (n + 2) m p _ 3 y4 hp v4 (by omega) (by omega) (by omega)
  obtain ⟨q, y6, e6, q0, q1, v6⟩ := take2 (n + 2) m p _ 3 y5 hp v5 (by omega) (by omega) (by omega)
  have e7 : ∀ i : Int, eqP (.int i) (.int 0) = some (i == 0) := fun i => by simp [eqP, eqQ, D.py, shp, PyData.plain, PyData.depth, PyData.eqv]
  refine ⟨f, s, 1 + l, a, t == 0, (q == 0) && decide (1 < 1 + l), y6, ?_, by omega, by omega, f0, by omega, s0, by omega, a0, a1, fun h => by simp at h; omega, v6.le (by omega)⟩
  rw [lev_hi]
  cases hq : (q == 0) <;> simp [runFn, fn10, execs, exec, evI, seqI, seqD, forL, setT, ev, evs, evO, evC, evAnd, evOr, M.bind, M.ret, M.opt, Out.ofR, startE, tru, truth, isiD, ctOk, tyS, isiT, cmpD, eqE, fnEnd, lev_lo, datOf, bltD, binD, unD, Es.len, M.calm, methF, calF, asB, dund, dunName, isiX, aF0, aF1, aF2, aF3, aF4, aF5, aF6, aF7, aF8, aF9, aF10, aF11, aF12, aF13, aF14, aF15, aF16, aF17, aF18, aF19, aF20, aF21, aF22, aF23, aF24, aF25, aF26, aF27, aF28, aF29, aF30, aF31, aF32, aF33, aF34, aG8, aG16, aG20, aG22, aG24, aG25, aG26, aG27, aG28, aG29, aG30, aG31, aG33, aG35, aG37, aC0, aC1, aC2, aC3, aC4, aC5, aC6, aC7, aC8, aC9, aC10, aC11, aC12, aC13, aC14, aC15, aC16, aC17, aC18, aC19, aC20, aC21, aC22, aC23, aC24, aC25, aA0_25, aA0_24, aA0_23, aA0_22, aA0_21, aA0_20, aP0_19, aP0_18, aP0_17, aP0_16, aP0_14, aP0_15, aP0_13, aP0_26, aM0_0, aS0_12, aK0, e1, e2, e3, e4, e5, e6, e7, hq]
theorem far_ok (n : Nat) (m : Mu) (f s l a v : Int) (d b : Bool) : (lev pg (n + 1)).hi 5 [.d (rowD f s l a d b), .d (.int v)] m = .ok (.d (rowD (f + v) (s + v) l a d b)) m := by
  rw [lev_hi]
  simp [runFn, fn5, execs, exec, evI, seqI, seqD, forL, setT, ev, evs, evO, evC, evAnd, evOr, M.bind, M.ret, M.opt, Out.ofR, startE, tru, truth, isiD, ctOk, tyS, isiT, cmpD, eqE, fnEnd, lev_lo, datOf, bltD, binD, unD, Es.len, M.calm, methF, calF, asB, dund, dunName, isiX, aF0, aF1, aF2, aF3, aF4, aF5, aF6, aF7, aF8, aF9, aF10, aF11, aF12, aF13, aF14, aF15, aF16, aF17, aF18, aF19, aF20, aF21, aF22, aF23, aF24, aF25, aF26, aF27, aF28, aF29, aF30, aF31, aF32, aF33, aF34, aG8, aG16, aG20, aG22, aG24, aG25, aG26, aG27, aG28, aG29, aG30, aG31, aG33, aG35, aG37, aC0, aC1, aC2, aC3, aC4, aC5, aC6, aC7, aC8, aC9, aC10, aC11, aC12, aC13, aC14, aC15, aC16, aC17, aC18, aC19, aC20, aC21, aC22, aC23, aC24, aC25, aA0_25, aA0_24, aA0_23, aA0_22, aA0_21, aA0_20, aP0_19, aP0_18, aP0_17, aP0_16, aP0_14, aP0_15, aP0_13, aP0_26, aM0_0, aS0_12, aK0, seqOf, subD, L2.ixN, slcD, cutL, HT.sIx, optI, strTop]
theorem tie_ok (n : Nat) (m : Mu) (hm : Wf m) (f s l a : Int) (d b : Bool) (hf : 0 ≤ f) (hs : 0 ≤ s) (h1 : 1 ≤ l) (h2 : l ≤ 10 ^ 30 - (if s > f then s else f)) (hb : b = true → 1 < l) :
    (lev pg (n + 4)).hi 12 [.d (rowD f s l a d b)] m = .ok (.d (tieD f s l a d b)) m := by
  have e := mk_tie n m hm f s l a d b hf hs h1 h2
  have e2 : (b && decide (1 < l)) = b := by
    cases b
    · rfl
    · simp [hb rfl]
  rw [e2] at e
  rw [lev_hi]
  simp [runFn, fn12, execs, exec, evI, seqI, seqD, forL, setT, ev, evs, evO, evC, evAnd, evOr, M.bind, M.ret, M.opt, Out.ofR, startE, tru, truth, isiD, ctOk, tyS, isiT, cmpD, eqE, fnEnd, lev_lo, datOf, bltD, binD, unD, Es.len, M.calm, methF, calF, asB, dund, dunName, isiX, aF0, aF1, aF2, aF3, aF4, aF5, aF6, aF7, aF8, aF9, aF10, aF11, aF12, aF13, aF14, aF15, aF16, aF17, aF18, aF19, aF20, aF21, aF22, aF23, aF24, aF25, aF26, aF27, aF28, aF29, aF30, aF31, aF32, aF33, aF34, aG8, aG16, aG20, aG22, aG24, aG25, aG26, aG27, aG28, aG29, aG30, aG31, aG33, aG35, aG37, aC0, aC1, aC2, aC3, aC4, aC5, aC6, aC7, aC8, aC9, aC10, aC11, aC12, aC13, aC14, aC15, aC16, aC17, aC18, aC19, aC20, aC21, aC22, aC23, aC24, aC25, aA0_25, aA0_24, aA0_23, aA0_22, aA0_21, aA0_20, aP0_19, aP0_18, aP0_17, aP0_16, aP0_14, aP0_15, aP0_13, aP0_26, aM0_0, aS0_12, aK0, seqOf, subD, L2.ixN, e]

/-- where a place goes -/
def prt (f s l : Int) (b : Bool) (p : Int) : Int := if b then (f + s + l - 1) - p else p + (s - f)

theorem eqP_row (f s l a f' s' l' a' : Int) (d b d' b' : Bool) : eqP (rowD f s l a d b) (rowD f' s' l' a' d' b') = some (f == f' && (s == s' && (l == l' && (a == a' && (d == d' && b == b'))))) := by
  simp [eqP, eqQ, D.py, D.pys, shp, PyData.plain, PyData.plainAll, PyData.depth, PyData.depthAll, PyData.eqv, PyData.eqvAll]
theorem eqP_str (x y : Str) : eqP (.str x) (.str y) = some (x == y) := by simp [eqP, eqQ, D.py, shp, PyData.plain, PyData.depth, PyData.eqv]
theorem reprD_row (f s l a : Int) (d b : Bool) (h1 : Sm f = true) (h2 : Sm s = true) (h3 : Sm l = true) (h4 : Sm a = true) : ∃ x, reprD (rowD f s l a d b) = some (.str x) := by
  simp [reprD, D.py, D.pys, D.bnd, D.bnds, h1, h2, h3, h4, PyData.depth, PyData.depthAll, strTop]
theorem reprD_int (i : Int) (h : Sm i = true) : ∃ x, reprD (.int i) = some (.str x) := by
  simp [reprD, D.py, D.bnd, h, PyData.depth, strTop]
theorem sm_abs {i : Int} (h1 : -(10 ^ 60) ≤ i) (h2 : i ≤ 10 ^ 60) : Sm i = true := by
  have p60 : (10 : Int) ^ 60 = 1000000000000000000000000000000000000000000000000000000000000 := by decide
  refine sm_of ?_
  have h3 : i.natAbs ≤ 10 ^ 60 := by
    have q60 : (10 : Nat) ^ 60 = 1000000000000000000000000000000000000000000000000000000000000 := by decide
    omega
  exact Nat.lt_of_le_of_lt h3 (by decide +kernel)
theorem prt_prt (f s l : Int) (b : Bool) (p : Int) : prt s f l b (prt f s l b p) = p := by
  unfold prt
  cases b <;> simp <;> omega
theorem prt_in (f s l : Int) (b : Bool) (p : Int) (h1 : f ≤ p) (h2 : p ≤ f + l - 1) : s ≤ prt f s l b p ∧ prt f s l b p ≤ s + l - 1 := by
  unfold prt
  cases b <;> simp <;> omega
/-- a walk that puts True in at each turn -/
theorem goL_true {f : W → M (Option D)} {m : Mu} : ∀ (ws : List W) (acc : List W), (∀ w ∈ ws, ∀ acc, f w (m ++ [.lst acc]) = .ok (some (.bl true)) (m ++ [.lst acc])) → acc.length + ws.length ≤ strTop → goL f m.length ws (m ++ [.lst acc]) = .ok () (m ++ [.lst (acc ++ ws.map fun _ => W.d (.bl true))])
  | [], acc, _, _ => by simp [goL, M.ret]
  | w :: r, acc, h, hl => by
    have hl2 : acc.length + (r.length + 1) ≤ strTop := hl
    have e := h w List.mem_cons_self acc
    have q : pushA m.length (.bl true) (m ++ [.lst acc]) = .ok () (m ++ [.lst (acc ++ [.d (.bl true)])]) := by
      unfold pushA
      have : decide (acc.length < strTop) = true := decide_eq_true (by omega)
      simp [this]
    have ih := goL_true r (acc ++ [.d (.bl true)]) (fun w' hw => h w' (List.mem_cons_of_mem _ hw)) (by simp; omega)
    unfold goL
    rw [bind_ok e]
    simp only
    rw [bind_ok q, ih]
    simp
theorem endL_true {m : Mu} (hm : Wf m) (ws : List W) : endL m.length (.ok () (m ++ [.lst ([] ++ ws.map fun _ => W.d (.bl true))])) = .ok (.d (.lst (ws.map fun _ => D.bl true))) m := by
  have e : (m ++ [MO.lst ([] ++ ws.map fun _ => W.d (.bl true))]).take m.length = m := by simp
  have hc : cutMu m.length (m ++ [.lst ([] ++ ws.map fun _ => W.d (.bl true))]) = some m := by rw [cut_wf (by rw [e]; exact hm), e]
  have hd : ∀ l : List W, datOf (l.map fun _ => W.d (.bl true)) = some (l.map fun _ => D.bl true) := fun l => by
    induction l with
    | nil => rfl
    | cons a r ih => simp [datOf, ih]
  simp only [endL]
  rw [hc]
  simp [hd]
theorem allBs_true : ∀ ws : List W, allBs (ws.map fun _ => D.bl true) = some (ws.map fun _ => true)
  | [] => rfl
  | _ :: r => by simp [allBs, allBs_true r]
theorem ev_lc (P : Pg) (C : Tn.Call) (el : E) (t : Tg) (i : It) (own : List Nat) (e : Env) (m : Mu) : ev P C (.lc el t i .no own) e m = ((evI P C i e).bind fun ws => fun m => endL m.length (goL (lcF t own (evC P C .no) (ev P C el) e) m.length ws (m ++ [.lst []]))) m := rfl
theorem ev_blt1 (P : Pg) (C : Tn.Call) (b : BF) (a : E) (e : Env) (m : Mu) : ev P C (.blt b (.cons a .nil)) e m = (((ev P C a e).bind fun x => (M.ret []).bind fun xs => M.ret (x :: xs)).bind fun ws => fun m => (M.opt (bltD b ws m)) m) m := rfl
theorem ev_not (P : Pg) (C : Tn.Call) (a : E) (e : Env) (m : Mu) : ev P C (.not a) e m = ((ev P C a e).bind fun x => (tru x).bind fun k => M.ret (.d (.bl (!k)))) m := rfl
theorem xs_two (P : Pg) (C : Tn.Call) (a b : S) (e e1 : Env) (m m1 m2 : Mu) (h : exec P C a e m = .nx e1 m1) (h2 : exec P C b e1 m1 = .nx e1 m2) : execs P C (.cons a (.cons b .nil)) e m = .nx e1 m2 := by
  simp only [execs, h, h2]

theorem rowof_ok (n : Nat) (m : Mu) (f s l a : Int) (d b : Bool) : (lev pg (n + 3)).hi 15 [.d (tieD f s l a d b)] m = .ok (.d (rowD f s l a d b)) m := by
  rw [lev_hi]
  simp [runFn, fn15, execs, exec, evI, seqI, seqD, forL, setT, ev, evs, evO, evC, evAnd, evOr, M.bind, M.ret, M.opt, Out.ofR, startE, tru, truth, isiD, ctOk, tyS, isiT, cmpD, eqE, fnEnd, lev_lo, datOf, bltD, binD, unD, Es.len, M.calm, methF, calF, asB, dund, dunName, isiX, aF0, aF1, aF2, aF3, aF4, aF5, aF6, aF7, aF8, aF9, aF10, aF11, aF12, aF13, aF14, aF15, aF16, aF17, aF18, aF19, aF20, aF21, aF22, aF23, aF24, aF25, aF26, aF27, aF28, aF29, aF30, aF31, aF32, aF33, aF34, aG8, aG16, aG20, aG22, aG24, aG25, aG26, aG27, aG28, aG29, aG30, aG31, aG33, aG35, aG37, aC0, aC1, aC2, aC3, aC4, aC5, aC6, aC7, aC8, aC9, aC10, aC11, aC12, aC13, aC14, aC15, aC16, aC17, aC18, aC19, aC20, aC21, aC22, aC23, aC24, aC25, aA0_25, aA0_24, aA0_23, aA0_22, aA0_21, aA0_20, aP0_19, aP0_18, aP0_17, aP0_16, aP0_14, aP0_15, aP0_13, aP0_26, aM0_0, aS0_12, aK0, p_first, p_second, p_length, p_amount, p_down, p_backward]

/-! ### the law -/
theorem sm_mod (A : Int) : Sm (A % 1000000000000000000000000000000000000000000000000000000000000000000000000000000000000000000000000000000000000000000000000000000000000000000000000000000000000000000000000000000000000000000000000000000000000000000000000000000000000000000000000000000000000000000000000000000000000000000000000000000000000) = true := by
  have h0 := Int.emod_nonneg A (show (1000000000000000000000000000000000000000000000000000000000000000000000000000000000000000000000000000000000000000000000000000000000000000000000000000000000000000000000000000000000000000000000000000000000000000000000000000000000000000000000000000000000000000000000000000000000000000000000000000000000000 : Int) ≠ 0 by decide +kernel)
  have h1 := Int.emod_lt_of_pos A (show (0 : Int) < 1000000000000000000000000000000000000000000000000000000000000000000000000000000000000000000000000000000000000000000000000000000000000000000000000000000000000000000000000000000000000000000000000000000000000000000000000000000000000000000000000000000000000000000000000000000000000000000000000000000000000 by decide +kernel)
  have h2 : (1000000000000000000000000000000000000000000000000000000000000000000000000000000000000000000000000000000000000000000000000000000000000000000000000000000000000000000000000000000000000000000000000000000000000000000000000000000000000000000000000000000000000000000000000000000000000000000000000000000000000 : Int) ≤ 2 ^ 1000 := by decide +kernel
  refine sm_of ?_
  have h3 : (((A % 1000000000000000000000000000000000000000000000000000000000000000000000000000000000000000000000000000000000000000000000000000000000000000000000000000000000000000000000000000000000000000000000000000000000000000000000000000000000000000000000000000000000000000000000000000000000000000000000000000000000000).natAbs : Nat) : Int) = A % 1000000000000000000000000000000000000000000000000000000000000000000000000000000000000000000000000000000000000000000000000000000000000000000000000000000000000000000000000000000000000000000000000000000000000000000000000000000000000000000000000000000000000000000000000000000000000000000000000000000000000 := Int.natAbs_of_nonneg h0
  have h5 : (((A % 1000000000000000000000000000000000000000000000000000000000000000000000000000000000000000000000000000000000000000000000000000000000000000000000000000000000000000000000000000000000000000000000000000000000000000000000000000000000000000000000000000000000000000000000000000000000000000000000000000000000000).natAbs : Nat) : Int) < ((2 ^ 1000 : Nat) : Int) := by
    rw [h3]
    exact Int.lt_of_lt_of_le h1 h2
  exact Int.ofNat_lt.mp h5
theorem own_b (A : Int) : 0 ≤ A % 1000000000000000000000000000000000000000000000000000000000000000000000000000000000000000000000000000000000000000000000000000000000000000000000000000000000000000000000000000000000000000000000000000000000000000000000000000000000000000000000000000000000000000000000000000000000000000000000000000000000000 ∧ A % 1000000000000000000000000000000000000000000000000000000000000000000000000000000000000000000000000000000000000000000000000000000000000000000000000000000000000000000000000000000000000000000000000000000000000000000000000000000000000000000000000000000000000000000000000000000000000000000000000000000000000 < 2 ^ 1000 := by
  have h0 := Int.emod_nonneg A (show (1000000000000000000000000000000000000000000000000000000000000000000000000000000000000000000000000000000000000000000000000000000000000000000000000000000000000000000000000000000000000000000000000000000000000000000000000000000000000000000000000000000000000000000000000000000000000000000000000000000000000 : Int) ≠ 0 by decide +kernel)
  have h1 := Int.emod_lt_of_pos A (show (0 : Int) < 1000000000000000000000000000000000000000000000000000000000000000000000000000000000000000000000000000000000000000000000000000000000000000000000000000000000000000000000000000000000000000000000000000000000000000000000000000000000000000000000000000000000000000000000000000000000000000000000000000000000000 by decide +kernel)
  have h2 : (1000000000000000000000000000000000000000000000000000000000000000000000000000000000000000000000000000000000000000000000000000000000000000000000000000000000000000000000000000000000000000000000000000000000000000000000000000000000000000000000000000000000000000000000000000000000000000000000000000000000000 : Int) ≤ 2 ^ 1000 := by decide +kernel
  exact ⟨h0, Int.lt_of_lt_of_le h1 h2⟩
theorem pot_ok (n : Nat) (m : Mu) (ns : List Int) (k : Int) (k0 : 0 ≤ k) (k1 : k < 100) : ∃ x, (lev pg (n + 1)).hi 2 [.d (.scr ns), .d (.int k)] m = .ok (.r m.length) (m ++ [x]) ∧ PotV x 0 := by
  have p62 : (2 : Int) ^ 62 = 4611686018427387904 := by decide
  have p60 : (10 : Int) ^ 60 = 1000000000000000000000000000000000000000000000000000000000000 := by decide
  have z1 : Sm 1 = true := by decide
  have z0 : Sm 0 = true := by decide
  have t1 : Sm 71023 = true := by decide
  have t2 : Sm 6397 = true := by decide
  have t3 : Sm k = true := sm_abs (by omega) (by omega)
  have t4 : Sm (6397 * k) = true := sm_abs (by omega) (by omega)
  have t5 : Sm 43 = true := by decide
  have t6 : ∀ c : Int, Sm (c % 2305843009213693951) = true := fun c => sm_abs (by omega) (by omega)
  have fin : ∀ c g : Int, ∀ A : Int, PotV (.lst [.d (.int (A % 1000000000000000000000000000000000000000000000000000000000000000000000000000000000000000000000000000000000000000000000000000000000000000000000000000000000000000000000000000000000000000000000000000000000000000000000000000000000000000000000000000000000000000000000000000000000000000000000000000000000000 * (if g = 1 then 1 else 0))), .d (.int ((c % 2305843009213693951 * 71023 + 6397 * k * k + 79) % 2305843009213693921)), .d (.int 0)]) 0 := fun c g A => by
    refine ⟨_, _, _, rfl, ?_, ?_, by omega, by omega, by decide, by decide⟩
    · split
      · have := (own_b A).1; omega
      · omega
    · split
      · have := (own_b A).2; omega
      · have : (0 : Int) < 2 ^ 1000 := by decide +kernel
        omega
  have go : ∀ c : Int, (if k < ns.length then (L2.ixN ns.length k).bind fun j => (ns[j]?).map fun i => W.d (.int i) else some (.d (.int (43 * k + 17)))) = some (W.d (.int c)) → ∃ x, (lev pg (n + 1)).hi 2 [.d (.scr ns), .d (.int k)] m = .ok (.r m.length) (m ++ [x]) ∧ PotV x 0 := fun c hc => by
    by_cases hA : 1000000000000000000 ≤ (if c < 0 then -c else c)
    · refine ⟨_, ?_, fin c 1 (if c < 0 then -c else c)⟩
      rw [lev_hi]
      by_cases hk : k < ns.length
      · rw [if_pos hk] at hc
        simp [runFn, fn2, execs, exec, evI, seqI, seqD, forL, setT, ev, evs, evO, evC, evAnd, evOr, M.bind, M.ret, M.opt, Out.ofR, startE, tru, truth, isiD, ctOk, tyS, isiT, cmpD, eqE, fnEnd, lev_lo, datOf, bltD, binD, unD, Es.len, M.calm, methF, calF, asB, dund, dunName, isiX, aF0, aF1, aF2, aF3, aF4, aF5, aF6, aF7, aF8, aF9, aF10, aF11, aF12, aF13, aF14, aF15, aF16, aF17, aF18, aF19, aF20, aF21, aF22, aF23, aF24, aF25, aF26, aF27, aF28, aF29, aF30, aF31, aF32, aF33, aF34, aG8, aG16, aG20, aG22, aG24, aG25, aG26, aG27, aG28, aG29, aG30, aG31, aG33, aG35, aG37, aC0, aC1, aC2, aC3, aC4, aC5, aC6, aC7, aC8, aC9, aC10, aC11, aC12, aC13, aC14, aC15, aC16, aC17, aC18, aC19, aC20, aC21, aC22, aC23, aC24, aC25, aA0_25, aA0_24, aA0_23, aA0_22, aA0_21, aA0_20, aP0_19, aP0_18, aP0_17, aP0_16, aP0_14, aP0_15, aP0_13, aP0_26, aM0_0, aS0_12, aK0, seqOf, subD, hk, hc, hA, sm_mod, z1, z0, t1, t2, t3, t4, t5, t6]
      · rw [if_neg hk] at hc
        cases hc
        simp [runFn, fn2, execs, exec, evI, seqI, seqD, forL, setT, ev, evs, evO, evC, evAnd, evOr, M.bind, M.ret, M.opt, Out.ofR, startE, tru, truth, isiD, ctOk, tyS, isiT, cmpD, eqE, fnEnd, lev_lo, datOf, bltD, binD, unD, Es.len, M.calm, methF, calF, asB, dund, dunName, isiX, aF0, aF1, aF2, aF3, aF4, aF5, aF6, aF7, aF8, aF9, aF10, aF11, aF12, aF13, aF14, aF15, aF16, aF17, aF18, aF19, aF20, aF21, aF22, aF23, aF24, aF25, aF26, aF27, aF28, aF29, aF30, aF31, aF32, aF33, aF34, aG8, aG16, aG20, aG22, aG24, aG25, aG26, aG27, aG28, aG29, aG30, aG31, aG33, aG35, aG37, aC0, aC1, aC2, aC3, aC4, aC5, aC6, aC7, aC8, aC9, aC10, aC11, aC12, aC13, aC14, aC15, aC16, aC17, aC18, aC19, aC20, aC21, aC22, aC23, aC24, aC25, aA0_25, aA0_24, aA0_23, aA0_22, aA0_21, aA0_20, aP0_19, aP0_18, aP0_17, aP0_16, aP0_14, aP0_15, aP0_13, aP0_26, aM0_0, aS0_12, aK0, seqOf, subD, hk, hA, sm_mod, z1, z0, t1, t2, t3, t4, t5, t6]
    · refine ⟨_, ?_, fin c 0 (if c < 0 then -c else c)⟩
      rw [lev_hi]
      by_cases hk : k < ns.length
      · rw [if_pos hk] at hc
        simp [runFn, fn2, execs, exec, evI, seqI, seqD, forL, setT, ev, evs, evO, evC, evAnd, evOr, M.bind, M.ret, M.opt, Out.ofR, startE, tru, truth, isiD, ctOk, tyS, isiT, cmpD, eqE, fnEnd, lev_lo, datOf, bltD, binD, unD, Es.len, M.calm, methF, calF, asB, dund, dunName, isiX, aF0, aF1, aF2, aF3, aF4, aF5, aF6, aF7, aF8, aF9, aF10, aF11, aF12, aF13, aF14, aF15, aF16, aF17, aF18, aF19, aF20, aF21, aF22, aF23, aF24, aF25, aF26, aF27, aF28, aF29, aF30, aF31, aF32, aF33, aF34, aG8, aG16, aG20, aG22, aG24, aG25, aG26, aG27, aG28, aG29, aG30, aG31, aG33, aG35, aG37, aC0, aC1, aC2, aC3, aC4, aC5, aC6, aC7, aC8, aC9, aC10, aC11, aC12, aC13, aC14, aC15, aC16, aC17, aC18, aC19, aC20, aC21, aC22, aC23, aC24, aC25, aA0_25, aA0_24, aA0_23, aA0_22, aA0_21, aA0_20, aP0_19, aP0_18, aP0_17, aP0_16, aP0_14, aP0_15, aP0_13, aP0_26, aM0_0, aS0_12, aK0, seqOf, subD, hk, hc, hA, sm_mod, z1, z0, t1, t2, t3, t4, t5, t6]
      · rw [if_neg hk] at hc
        cases hc
        simp [runFn, fn2, execs, exec, evI, seqI, seqD, forL, setT, ev, evs, evO, evC, evAnd, evOr, M.bind, M.ret, M.opt, Out.ofR, startE, tru, truth, isiD, ctOk, tyS, isiT, cmpD, eqE, fnEnd, lev_lo, datOf, bltD, binD, unD, Es.len, M.calm, methF, calF, asB, dund, dunName, isiX, aF0, aF1, aF2, aF3, aF4, aF5, aF6, aF7, aF8, aF9, aF10, aF11, aF12, aF13, aF14, aF15, aF16, aF17, aF18, aF19, aF20, aF21, aF22, aF23, aF24, aF25, aF26, aF27, aF28, aF29, aF30, aF31, aF32, aF33, aF34, aG8, aG16, aG20, aG22, aG24, aG25, aG26, aG27, aG28, aG29, aG30, aG31, aG33, aG35, aG37, aC0, aC1, aC2, aC3, aC4, aC5, aC6, aC7, aC8, aC9, aC10, aC11, aC12, aC13, aC14, aC15, aC16, aC17, aC18, aC19, aC20, aC21, aC22, aC23, aC24, aC25, aA0_25, aA0_24, aA0_23, aA0_22, aA0_21, aA0_20, aP0_19, aP0_18, aP0_17, aP0_16, aP0_14, aP0_15, aP0_13, aP0_26, aM0_0, aS0_12, aK0, seqOf, subD, hk, hA, sm_mod, z1, z0, t1, t2, t3, t4, t5, t6]
  by_cases hk : k < ns.length
  · obtain ⟨j, hj⟩ : ∃ j : Nat, k = j := ⟨k.toNat, by omega⟩
    subst hj
    have hj : j < ns.length := by omega
    refine go ns[j] ?_
    rw [if_pos hk]
    have e2 : L2.ixN ns.length (j : Int) = some j := by
      unfold L2.ixN
      rw [if_pos (by omega), if_pos (by omega)]
      simp
    rw [e2]
    simp [hj]
  · exact go (43 * k + 17) (by rw [if_neg hk])
theorem cells_ok (n : Nat) (m : Mu) (ns : List Int) (h : ns.length ≤ 63) : (lev pg (n + 1)).hi 1 [.d (.scr ns), .d (.int 4)] m = .ok (.d (.lst (rngL 0 (if (if (ns.length : Int) < 4 then (ns.length : Int) else 4) > 1 then (if (ns.length : Int) < 4 then (ns.length : Int) else 4) else 1).toNat))) m := by
  have hb : (-(2 ^ 62) ≤ (if (if (ns.length : Int) < 4 then (ns.length : Int) else 4) > 1 then (if (ns.length : Int) < 4 then (ns.length : Int) else 4) else 1)) ∧ (if (if (ns.length : Int) < 4 then (ns.length : Int) else 4) > 1 then (if (ns.length : Int) < 4 then (ns.length : Int) else 4) else 1) < (strTop : Int) := by
    have st : (strTop : Int) = 4000000 := rfl
    rw [st]
    constructor <;> split <;> first | omega | (split <;> omega)
  rw [lev_hi]
  simp [runFn, fn1, execs, exec, evI, seqI, seqD, forL, setT, ev, evs, evO, evC, evAnd, evOr, M.bind, M.ret, M.opt, Out.ofR, startE, tru, truth, isiD, ctOk, tyS, isiT, cmpD, eqE, fnEnd, lev_lo, datOf, bltD, binD, unD, Es.len, M.calm, methF, calF, asB, dund, dunName, isiX, aF0, aF1, aF2, aF3, aF4, aF5, aF6, aF7, aF8, aF9, aF10, aF11, aF12, aF13, aF14, aF15, aF16, aF17, aF18, aF19, aF20, aF21, aF22, aF23, aF24, aF25, aF26, aF27, aF28, aF29, aF30, aF31, aF32, aF33, aF34, aG8, aG16, aG20, aG22, aG24, aG25, aG26, aG27, aG28, aG29, aG30, aG31, aG33, aG35, aG37, aC0, aC1, aC2, aC3, aC4, aC5, aC6, aC7, aC8, aC9, aC10, aC11, aC12, aC13, aC14, aC15, aC16, aC17, aC18, aC19, aC20, aC21, aC22, aC23, aC24, aC25, aA0_25, aA0_24, aA0_23, aA0_22, aA0_21, aA0_20, aP0_19, aP0_18, aP0_17, aP0_16, aP0_14, aP0_15, aP0_13, aP0_26, aM0_0, aS0_12, aK0, seqOf] at hb ⊢
  simp [hb]

/-! ### errors -/
theorem lev_rm (P : Pg) (n : Nat) : (lev P (n + 1)).rm = true := rfl
theorem cut_self {m : Mu} (h : Wf m) : cutMu m.length m = some m := by
  have e : m.take m.length = m := List.take_length
  rw [cut_wf (by rw [e]; exact h), e]
/-- plain values that are no integers -/
def notI : D → Bool
  | .non => true
  | .bl _ => true
  | .str _ => true
  | .tup _ => true
  | .lst _ => true
  | .dic _ => true
  | _ => false
theorem isint_no (n : Nat) (m : Mu) (d : D) (x y : W) (h : notI d = true) : (lev pg (n + 1)).hi 29 [.d d, x, y] m = .ok (.d (.bl false)) m := by
  rw [lev_hi]
  cases d <;> first | (cases h; done) | simp [runFn, fn29, execs, exec, evI, seqI, seqD, forL, setT, ev, evs, evO, evC, evAnd, evOr, M.bind, M.ret, M.opt, Out.ofR, startE, tru, truth, isiD, ctOk, tyS, isiT, cmpD, eqE, fnEnd, lev_lo, datOf, bltD, binD, unD, Es.len, M.calm, methF, calF, asB, dund, dunName, isiX, aF0, aF1, aF2, aF3, aF4, aF5, aF6, aF7, aF8, aF9, aF10, aF11, aF12, aF13, aF14, aF15, aF16, aF17, aF18, aF19, aF20, aF21, aF22, aF23, aF24, aF25, aF26, aF27, aF28, aF29, aF30, aF31, aF32, aF33, aF34, aG8, aG16, aG20, aG22, aG24, aG25, aG26, aG27, aG28, aG29, aG30, aG31, aG33, aG35, aG37, aC0, aC1, aC2, aC3, aC4, aC5, aC6, aC7, aC8, aC9, aC10, aC11, aC12, aC13, aC14, aC15, aC16, aC17, aC18, aC19, aC20, aC21, aC22, aC23, aC24, aC25, aA0_25, aA0_24, aA0_23, aA0_22, aA0_21, aA0_20, aP0_19, aP0_18, aP0_17, aP0_16, aP0_14, aP0_15, aP0_13, aP0_26, aM0_0, aS0_12, aK0]
theorem met_ok (n : Nat) (m m' : Mu) (k : Nat) (cs : List W) (w : W) (h : (lev pg n).hi k cs m = .ok w m') (hc : cs.all W.noL = true) (hm : m.all MO.noL = true) (hl : m'.length = m.length) : (lev pg (n + 1)).hi 14 [.lam k cs] m = .ok (.d .non) m' := by
  rw [lev_hi]
  simp only [runFn, aF14, fn14]
  simp [execs, exec, evI, seqI, seqD, forL, setT, ev, evs, evO, evC, evAnd, evOr, M.bind, M.ret, M.opt, Out.ofR, startE, tru, truth, isiD, ctOk, tyS, isiT, cmpD, eqE, fnEnd, lev_lo, datOf, bltD, binD, unD, Es.len, M.calm, methF, calF, asB, dund, dunName, isiX, aF0, aF1, aF2, aF3, aF4, aF5, aF6, aF7, aF8, aF9, aF10, aF11, aF12, aF13, aF14, aF15, aF16, aF17, aF18, aF19, aF20, aF21, aF22, aF23, aF24, aF25, aF26, aF27, aF28, aF29, aF30, aF31, aF32, aF33, aF34, aG8, aG16, aG20, aG22, aG24, aG25, aG26, aG27, aG28, aG29, aG30, aG31, aG33, aG35, aG37, aC0, aC1, aC2, aC3, aC4, aC5, aC6, aC7, aC8, aC9, aC10, aC11, aC12, aC13, aC14, aC15, aC16, aC17, aC18, aC19, aC20, aC21, aC22, aC23, aC24, aC25, aA0_25, aA0_24, aA0_23, aA0_22, aA0_21, aA0_20, aP0_19, aP0_18, aP0_17, aP0_16, aP0_14, aP0_15, aP0_13, aP0_26, aM0_0, aS0_12, aK0, handle, Pg.exAt, Pg.exSub, h, hc, hm, hl]
theorem met_exc (n : Nat) (m m' : Mu) (k c : Nat) (cs : List W) (x : D) (h : (lev pg n).hi k cs m = .exc c x m') (hc : cs.all W.noL = true) (hm : m.all MO.noL = true) (hl : m'.length = m.length) (hx : c < pg.nx) : (lev pg (n + 1)).hi 14 [.lam k cs] m = .ok (.d (.exn c x)) m' := by
  rw [lev_hi]
  simp only [runFn, aF14, fn14]
  simp [execs, exec, evI, seqI, seqD, forL, setT, ev, evs, evO, evC, evAnd, evOr, M.bind, M.ret, M.opt, Out.ofR, startE, tru, truth, isiD, ctOk, tyS, isiT, cmpD, eqE, fnEnd, lev_lo, datOf, bltD, binD, unD, Es.len, M.calm, methF, calF, asB, dund, dunName, isiX, aF0, aF1, aF2, aF3, aF4, aF5, aF6, aF7, aF8, aF9, aF10, aF11, aF12, aF13, aF14, aF15, aF16, aF17, aF18, aF19, aF20, aF21, aF22, aF23, aF24, aF25, aF26, aF27, aF28, aF29, aF30, aF31, aF32, aF33, aF34, aG8, aG16, aG20, aG22, aG24, aG25, aG26, aG27, aG28, aG29, aG30, aG31, aG33, aG35, aG37, aC0, aC1, aC2, aC3, aC4, aC5, aC6, aC7, aC8, aC9, aC10, aC11, aC12, aC13, aC14, aC15, aC16, aC17, aC18, aC19, aC20, aC21, aC22, aC23, aC24, aC25, aA0_25, aA0_24, aA0_23, aA0_22, aA0_21, aA0_20, aP0_19, aP0_18, aP0_17, aP0_16, aP0_14, aP0_15, aP0_13, aP0_26, aM0_0, aS0_12, aK0, handle, Pg.exAt, Pg.exSub, h, hc, hm, hl, hx]

theorem nx_eq : pg.nx = 11 := rfl
/-- values whose repr is told -/
def Rp (x : D) : Prop := ∃ p, x.py = some p ∧ x.bnd ≤ 100000 ∧ p.depth ≤ 10
def Arg (x : D) : Prop := Rp x ∧ ((∃ i, x = .int i) ∨ notI x = true)
theorem rp_int {i : Int} (h : Sm i = true) : Rp (.int i) := ⟨.int i, rfl, by simp [D.bnd, h], by simp [PyData.depth]⟩
theorem arg_int {i : Int} (h : Sm i = true) : Arg (.int i) := ⟨rp_int h, .inl ⟨i, rfl⟩⟩
theorem rp_pair {x y : D} (hx : Rp x) (hy : Rp y) : ∃ z, reprD (.tup [x, y]) = some (.str z) := by
  obtain ⟨p, e1, b1, d1⟩ := hx
  obtain ⟨q, e2, b2, d2⟩ := hy
  have hb : (D.tup [x, y]).bnd ≤ strTop := by simp [D.bnd, D.bnds, strTop]; omega
  have hd : (PyData.tuple [p, q]).depth ≤ 64 := by simp [PyData.depth, PyData.depthAll]; omega
  exact ⟨(PyData.tuple [p, q]).shown, by unfold reprD; simp [D.py, D.pys, e1, e2, hb, hd]⟩

def RowV (f s l a : Int) (b : Bool) : Prop := 0 ≤ f ∧ 0 ≤ s ∧ 1 ≤ l ∧ f + l ≤ 10 ^ 30 ∧ s + l ≤ 10 ^ 30 ∧ -(10 ^ 35) ≤ a ∧ a ≤ 10 ^ 35 ∧ (b = true → 1 < l)
theorem RowV.tie {n : Nat} {m : Mu} {f s l a : Int} {d b : Bool} (h : RowV f s l a b) (hm : Wf m) : (lev pg (n + 4)).hi 12 [.d (rowD f s l a d b)] m = .ok (.d (tieD f s l a d b)) m := by
  obtain ⟨h1, h2, h3, h4, h5, _, _, h6⟩ := h
  exact tie_ok n m hm f s l a d b h1 h2 h3 (by split <;> omega) h6

/-! ### walks of Trues -/
abbrev tr (n : Nat) : List W := List.replicate n (.d (.bl true))
theorem tr_wf {B : Mu} (h : Wf B) (n : Nat) : Wf (B ++ [MO.lst (tr n)]) := fun o ho k => by
  rcases List.mem_append.mp ho with z | z
  · exact h o z k
  · rw [List.mem_singleton.mp z]
    have u : ∀ n, W.unders k (tr n) = true := fun n => by
      induction n with
      | zero => rfl
      | succ n ih => show (true && W.unders k (tr n)) = true; rw [ih]; rfl
    have v : ∀ n, (tr n).all W.noL = true := fun n => by
      induction n with
      | zero => rfl
      | succ n ih => show (true && (tr n).all W.noL) = true; rw [ih]; rfl
    show (W.unders k (tr n) && (tr n).all W.noL) = true
    rw [u n, v n]
    rfl
theorem goL_tr {f : W → M (Option D)} {m : Mu} : ∀ (ws : List W) (c : Nat), (∀ w ∈ ws, ∀ c, f w (m ++ [.lst (tr c)]) = .ok (some (.bl true)) (m ++ [.lst (tr c)])) → c + ws.length ≤ 1000 → goL f m.length ws (m ++ [.lst (tr c)]) = .ok () (m ++ [.lst (tr (c + ws.length))])
  | [], c, _, _ => by simp [goL, M.ret]
  | w :: r, c, h, hl => by
    have hl2 : c + (r.length + 1) ≤ 1000 := hl
    have e := h w List.mem_cons_self c
    have q : pushA m.length (.bl true) (m ++ [.lst (tr c)]) = .ok () (m ++ [.lst (tr (c + 1))]) := by
      have g3 : decide (c < strTop) = true := decide_eq_true (by simp [strTop]; omega)
      unfold pushA
      simp [g3, tr, List.replicate_succ']
    have ih := goL_tr r (c + 1) (fun w' hw => h w' (List.mem_cons_of_mem _ hw)) (by omega)
    unfold goL
    rw [bind_ok e]
    simp only
    rw [bind_ok q, ih]
    have e9 : c + 1 + r.length = c + (w :: r).length := by simp only [List.length_cons]; omega
    rw [e9]
theorem endL_tr {m : Mu} (hm : Wf m) (c : Nat) : endL m.length (.ok () (m ++ [.lst (tr c)])) = .ok (.d (.lst (List.replicate c (.bl true)))) m := by
  have e : (m ++ [MO.lst (tr c)]).take m.length = m := by simp
  have hc : cutMu m.length (m ++ [.lst (tr c)]) = some m := by rw [cut_wf (by rw [e]; exact hm), e]
  have hd : ∀ c : Nat, datOf (tr c) = some (List.replicate c (D.bl true)) := fun c => by
    induction c with
    | zero => rfl
    | succ c ih =>
      show datOf (W.d (.bl true) :: tr c) = _
      simp [datOf, ih, List.replicate_succ]
  simp only [endL]
  rw [hc]
  simp [hd]
theorem allBs_tr : ∀ c : Nat, allBs (List.replicate c (.bl true)) = some (List.replicate c true)
  | 0 => rfl
  | c + 1 => by simp [List.replicate_succ, allBs, allBs_tr c]
/-- not all([.. for ..]) where each turn tells True -/
theorem all_lc {P : Pg} {C : Tn.Call} {el : E} {t : Tg} {i : It} {own : List Nat} {e : Env} {m : Mu} {ws : List W} (hm : Wf m) (hi : evI P C i e m = .ok ws m) (hl : ws.length ≤ 1000)
    (h : ∀ w ∈ ws, ∀ c, lcF t own (evC P C .no) (ev P C el) e w (m ++ [.lst (tr c)]) = .ok (some (.bl true)) (m ++ [.lst (tr c)])) : ev P C (.not (.blt .all (.cons (.lc el t i .no own) .nil))) e m = .ok (.d (.bl false)) m := by
  have e1 : ev P C (.lc el t i .no own) e m = .ok (.d (.lst (List.replicate (0 + ws.length) (.bl true)))) m := by
    rw [ev_lc, bind_ok hi]
    have g := goL_tr (m := m) ws 0 h (by omega)
    show endL m.length (goL _ m.length ws (m ++ [.lst (tr 0)])) = _
    rw [g, endL_tr hm]
  have e2 : ev P C (.blt .all (.cons (.lc el t i .no own) .nil)) e m = .ok (.d (.bl true)) m := by
    rw [ev_blt1, bind_assoc, bind_ok e1]
    show (M.opt ((allBs (List.replicate (0 + ws.length) (.bl true))).map fun k => W.d (.bl (k.all id)))) m = _
    rw [allBs_tr]
    simp [M.opt, M.ret]
  rw [ev_not, bind_ok e2]
  rfl
/-- a loop that keeps what it is told to keep -/
theorem forL_inv {st : W → Env → Option Env} {b : Env → Mu → Out} (I : Nat → Env → Mu → Prop) (N : Nat) : ∀ (ws : List W) (k : Nat) (e : Env) (m : Mu), k + ws.length ≤ N → (∀ w ∈ ws, ∀ k e m, k < N → I k e m → ∃ e1 e2 m2, st w e = some e1 ∧ b e1 m = .nx e2 m2 ∧ I (k + 1) e2 m2) → I k e m → ∃ e' m', forL st b ws e m = .nx e' m' ∧ I (k + ws.length) e' m'
  | [], k, e, m, _, _, h => ⟨e, m, rfl, h⟩
  | w :: r, k, e, m, hN, hb, h => by
    have e9 : k + 1 + r.length = k + (w :: r).length := by simp only [List.length_cons]; omega
    obtain ⟨e1, e2, m2, s1, s2, h2⟩ := hb w List.mem_cons_self k e m (by omega) h
    obtain ⟨e', m', s3, h3⟩ := forL_inv I N r (k + 1) e2 m2 (by omega) (fun w' hw => hb w' (List.mem_cons_of_mem _ hw)) h2
    refine ⟨e', m', ?_, ?_⟩
    · simp only [forL, s1, s2]
      exact s3
    · rw [← e9]
      exact h3
/-! ### the statements of a body -/
def sAt : Ss → Nat → S
  | .cons s _, 0 => s
  | .cons _ r, n + 1 => sAt r n
  | .nil, _ => .exp (.var 0)
def foB : S → Ss
  | .fo _ _ b => b
  | _ => .nil
def foI : S → It
  | .fo _ i _ => i
  | _ => .seq (.var 0)
theorem xs_cons (P : Pg) (C : Tn.Call) (a : S) (r : Ss) (e e1 : Env) (m m1 : Mu) (h : exec P C a e m = .nx e1 m1) : execs P C (.cons a r) e m = execs P C r e1 m1 := by
  simp only [execs, h]

theorem arg_rp {x : D} (h : notI x = true) (p : PyData) (e : x.py = some p) (hb : x.bnd ≤ 100000) (hd : p.depth ≤ 10) : Arg x := ⟨⟨p, e, hb, hd⟩, .inr h⟩
theorem odd_ok (n : Nat) (m : Mu) (p : Nat) (K : Int) (y : MO) (hp : p < m.length) (hv : PotV y K) (hK : K < 2 ^ 40) :
    ∃ x z, (lev pg (n + 3)).hi 8 [.r p] (m.set p y) = .ok (.d x) (m.set p z) ∧ Arg x ∧ PotV z (K + 1) := by
  obtain ⟨x, z, e, h1, h2⟩ := of2 n m p K y [.non, .bl true, .bl false, .int (-1), .str (Str.ofString ""), .str (Str.ofString "0"), .str (Str.ofString "up"), .str (Str.ofString "back"), .tup [], .lst [], .dic [], .tup [.tup []], .tup [.int 0], .lst [.int 0], .tup [.int 0, .int 1], .str (Str.ofString "0 1 1 up 0"), .str (Str.ofString "tie"), .tup [.bl true], .lst [.str (Str.ofString "0")], .dic [(.inr (Str.ofString "a"), .int 0)], .str (Str.ofString "size 1"), .tup [.str (Str.ofString "down"), .int 1]] hp hv hK (by decide) (by decide)
  refine ⟨x, z, ?_, ?_, h2⟩
  · rw [lev_hi]
    simp [runFn, fn8, execs, exec, evI, seqI, seqD, forL, setT, ev, evs, evO, evC, evAnd, evOr, M.bind, M.ret, M.opt, Out.ofR, startE, tru, truth, isiD, ctOk, tyS, isiT, cmpD, eqE, fnEnd, lev_lo, datOf, bltD, binD, unD, Es.len, M.calm, methF, calF, asB, dund, dunName, isiX, aF0, aF1, aF2, aF3, aF4, aF5, aF6, aF7, aF8, aF9, aF10, aF11, aF12, aF13, aF14, aF15, aF16, aF17, aF18, aF19, aF20, aF21, aF22, aF23, aF24, aF25, aF26, aF27, aF28, aF29, aF30, aF31, aF32, aF33, aF34, aG8, aG16, aG20, aG22, aG24, aG25, aG26, aG27, aG28, aG29, aG30, aG31, aG33, aG35, aG37, aC0, aC1, aC2, aC3, aC4, aC5, aC6, aC7, aC8, aC9, aC10, aC11, aC12, aC13, aC14, aC15, aC16, aC17, aC18, aC19, aC20, aC21, aC22, aC23, aC24, aC25, aA0_25, aA0_24, aA0_23, aA0_22, aA0_21, aA0_20, aP0_19, aP0_18, aP0_17, aP0_16, aP0_14, aP0_15, aP0_13, aP0_26, aM0_0, aS0_12, aK0, zipK, strTop, e]
  · simp only [List.mem_cons, List.not_mem_nil, or_false] at h1
    rcases h1 with rfl | rfl | rfl | rfl | rfl | rfl | rfl | rfl | rfl | rfl | rfl | rfl | rfl | rfl | rfl | rfl | rfl | rfl | rfl | rfl | rfl | rfl <;> first | exact arg_int (by decide) | exact arg_rp rfl _ rfl (by decide) (by decide)

theorem m_eq (n : Nat) (m : Mu) (f s l a f' s' l' a' : Int) (d b d' b' : Bool) : (lev pg (n + 5)).hi 27 [.d (tieD f s l a d b), .d (tieD f' s' l' a' d' b')] m = .ok (.d (.bl (f == f' && (s == s' && (l == l' && (a == a' && (d == d' && b == b'))))))) m := by
  rw [lev_hi]
  simp [runFn, fn27, execs, exec, evI, seqI, seqD, forL, setT, ev, evs, evO, evC, evAnd, evOr, M.bind, M.ret, M.opt, Out.ofR, startE, tru, truth, isiD, ctOk, tyS, isiT, cmpD, eqE, fnEnd, lev_lo, datOf, bltD, binD, unD, Es.len, M.calm, methF, calF, asB, dund, dunName, isiX, aF0, aF1, aF2, aF3, aF4, aF5, aF6, aF7, aF8, aF9, aF10, aF11, aF12, aF13, aF14, aF15, aF16, aF17, aF18, aF19, aF20, aF21, aF22, aF23, aF24, aF25, aF26, aF27, aF28, aF29, aF30, aF31, aF32, aF33, aF34, aG8, aG16, aG20, aG22, aG24, aG25, aG26, aG27, aG28, aG29, aG30, aG31, aG33, aG35, aG37, aC0, aC1, aC2, aC3, aC4, aC5, aC6, aC7, aC8, aC9, aC10, aC11, aC12, aC13, aC14, aC15, aC16, aC17, aC18, aC19, aC20, aC21, aC22, aC23, aC24, aC25, aA0_25, aA0_24, aA0_23, aA0_22, aA0_21, aA0_20, aP0_19, aP0_18, aP0_17, aP0_16, aP0_14, aP0_15, aP0_13, aP0_26, aM0_0, aS0_12, aK0, p_mark, eqP_row, eqR]

/-! ### walks that make lists -/
theorem forL_ix {st : W → Env → Option Env} {b : Env → Mu → Out} (I : Nat → Env → Mu → Prop) (ws : List W) (hs : ∀ k w e m, ws[k]? = some w → I k e m → ∃ e1 e2 m2, st w e = some e1 ∧ b e1 m = .nx e2 m2 ∧ I (k + 1) e2 m2) : ∀ (r : List W) (k : Nat) (e : Env) (m : Mu), ws.drop k = r → k ≤ ws.length → I k e m → ∃ e' m', forL st b r e m = .nx e' m' ∧ I ws.length e' m'
  | [], k, e, m, hd, hk, h => by
    have e0 : k = ws.length := by
      have := congrArg List.length hd
      simp at this
      omega
    subst e0
    exact ⟨e, m, rfl, h⟩
  | w :: r, k, e, m, hd, hk, h => by
    have lt : k < ws.length := by
      have := congrArg List.length hd
      simp at this
      omega
    rw [List.drop_eq_getElem_cons lt] at hd
    injection hd with h1 h2
    obtain ⟨e1, e2, m2, s1, s2, h3⟩ := hs k w e m (by rw [List.getElem?_eq_getElem lt, h1]) h
    obtain ⟨e', m', s3, h4⟩ := forL_ix I ws hs r (k + 1) e2 m2 h2 lt h3
    refine ⟨e', m', ?_, h4⟩
    simp only [forL, s1, s2]
    exact s3
theorem dl_wf {B : Mu} (h : Wf B) (l : List D) : Wf (B ++ [MO.lst (l.map W.d)]) := fun o ho k => by
  rcases List.mem_append.mp ho with z | z
  · exact h o z k
  · rw [List.mem_singleton.mp z]
    have u : ∀ l : List D, W.unders k (l.map W.d) = true := fun l => by
      induction l with
      | nil => rfl
      | cons a l ih => show (true && W.unders k (l.map W.d)) = true; rw [ih]; rfl
    have v : ∀ l : List D, (l.map W.d).all W.noL = true := fun l => by
      induction l with
      | nil => rfl
      | cons a l ih => show (true && (l.map W.d).all W.noL) = true; rw [ih]; rfl
    show (W.unders k (l.map W.d) && (l.map W.d).all W.noL) = true
    rw [u l, v l]
    rfl
theorem push_d {m : Mu} (acc : List D) (x : D) (h : acc.length < 1000) : pushA m.length x (m ++ [.lst (acc.map W.d)]) = .ok () (m ++ [.lst ((acc ++ [x]).map W.d)]) := by
  have g3 : decide (acc.length < strTop) = true := decide_eq_true (by simp [strTop]; omega)
  unfold pushA
  simp [g3]
theorem goL_map {f : W → M (Option D)} {m : Mu} (g : W → D) : ∀ (ws : List W) (acc : List D), (∀ w ∈ ws, ∀ acc : List D, f w (m ++ [.lst (acc.map W.d)]) = .ok (some (g w)) (m ++ [.lst (acc.map W.d)])) → acc.length + ws.length ≤ 1000 → goL f m.length ws (m ++ [.lst (acc.map W.d)]) = .ok () (m ++ [.lst ((acc ++ ws.map g).map W.d)])
  | [], acc, _, _ => by simp [goL, M.ret]
  | w :: r, acc, h, hl => by
    have hl2 : acc.length + (r.length + 1) ≤ 1000 := hl
    have e := h w List.mem_cons_self acc
    have ih := goL_map (f := f) (m := m) g r (acc ++ [g w]) (fun w' hw => h w' (List.mem_cons_of_mem _ hw)) (by simp; omega)
    unfold goL
    rw [bind_ok e]
    simp only
    rw [bind_ok (push_d acc (g w) (by omega)), ih]
    simp
theorem goR_map {f : W → M (Option D)} {m : Mu} (g : W → D) (i : Nat) (l : List W) (hi : m[i]? = some (.lst l)) (hf : ∀ w ∈ l, ∀ acc : List D, f w (m ++ [.lst (acc.map W.d)]) = .ok (some (g w)) (m ++ [.lst (acc.map W.d)])) : ∀ (r : List W) (j : Nat) (acc : List D), l.drop j = r → j ≤ l.length → acc.length + r.length ≤ 1000 → goR f i m.length r.length j (m ++ [.lst (acc.map W.d)]) = .ok () (m ++ [.lst ((acc ++ r.map g).map W.d)])
  | [], j, acc, hd, hj, _ => by
    have e0 : l.length = j := by
      have := congrArg List.length hd
      simp at this
      omega
    have lt : i < m.length := (List.getElem?_eq_some_iff.mp hi).1
    have g1 : (m ++ [MO.lst (acc.map W.d)])[i]? = some (.lst l) := by rw [List.getElem?_append_left lt]; exact hi
    show goR f i m.length 0 j _ = _
    unfold goR
    rw [g1]
    simp [e0]
  | w :: r, j, acc, hd, hj, hl => by
    have lt : j < l.length := by
      have := congrArg List.length hd
      simp at this
      omega
    have hl2 : acc.length + (r.length + 1) ≤ 1000 := hl
    rw [List.drop_eq_getElem_cons lt] at hd
    injection hd with h1 h2
    have lt2 : i < m.length := (List.getElem?_eq_some_iff.mp hi).1
    have g1 : (m ++ [MO.lst (acc.map W.d)])[i]? = some (.lst l) := by rw [List.getElem?_append_left lt2]; exact hi
    have g2 : l[j]? = some w := by rw [List.getElem?_eq_getElem lt, h1]
    have e := hf w (List.mem_of_getElem? g2) acc
    have ih := goR_map (f := f) (m := m) g i l hi hf r (j + 1) (acc ++ [g w]) h2 lt (by simp; omega)
    show goR f i m.length (r.length + 1) j _ = _
    unfold goR
    rw [g1]
    simp only [g2]
    rw [bind_ok e]
    simp only
    rw [bind_ok (push_d acc (g w) (by omega)), ih]
    simp
theorem endL_map {m : Mu} (hm : Wf m) (l : List D) : endL m.length (.ok () (m ++ [.lst (l.map W.d)])) = .ok (.d (.lst l)) m := by
  have e : (m ++ [MO.lst (l.map W.d)]).take m.length = m := by simp
  have hc : cutMu m.length (m ++ [.lst (l.map W.d)]) = some m := by rw [cut_wf (by rw [e]; exact hm), e]
  have hd : ∀ l : List D, datOf (l.map W.d) = some l := fun l => by
    induction l with
    | nil => rfl
    | cons a l ih => simp [datOf, ih]
  simp only [endL]
  rw [hc]
  simp [hd]
theorem lc_map {P : Pg} {C : Tn.Call} {el : E} {t : Tg} {i : It} {own : List Nat} {e : Env} {m m' : Mu} {ws : List W} (g : W → D) (hm : Wf m') (hi : evI P C i e m = .ok ws m') (hl : ws.length ≤ 1000)
    (h : ∀ w ∈ ws, ∀ acc : List D, lcF t own (evC P C .no) (ev P C el) e w (m' ++ [.lst (acc.map W.d)]) = .ok (some (g w)) (m' ++ [.lst (acc.map W.d)])) : ev P C (.lc el t i .no own) e m = .ok (.d (.lst (ws.map g))) m' := by
  rw [ev_lc, bind_ok hi]
  have q := goL_map (m := m') g ws [] h (by simpa using hl)
  show endL m'.length (goL _ m'.length ws (m' ++ [.lst (([] : List D).map W.d)])) = _
  rw [q, endL_map hm]
  simp
theorem ev_lcr (P : Pg) (C : Tn.Call) (el : E) (t : Tg) (j : Nat) (own : List Nat) (e : Env) (m : Mu) : ev P C (.lcr el t j .no own) e m = lcrF t own j (evC P C .no) (ev P C el) e m := rfl
theorem lcr_map {P : Pg} {C : Tn.Call} {el : E} {t : Tg} {j i : Nat} {own : List Nat} {e : Env} {m : Mu} {l : List W} (g : W → D) (hm : Wf m) (hj : e[j]? = some (some (.r i))) (hi : m[i]? = some (.lst l)) (hl : l.length ≤ 1000)
    (h : ∀ w ∈ l, ∀ acc : List D, lcF t own (evC P C .no) (ev P C el) e w (m ++ [.lst (acc.map W.d)]) = .ok (some (g w)) (m ++ [.lst (acc.map W.d)])) : ev P C (.lcr el t j .no own) e m = .ok (.d (.lst (l.map g))) m := by
  rw [ev_lcr]
  unfold lcrF
  rw [hj]
  have q := goR_map (m := m) g i l hi h l 0 [] rfl (Nat.zero_le _) (by simpa using hl)
  show (match m[i]? with
      | some (.lst l) => endL m.length (goR _ i m.length l.length 0 (m ++ [MO.lst (([] : List D).map W.d)]))
      | _ => .stuck) = _
  rw [hi]
  simp only
  rw [q, endL_map hm]
  simp
theorem all_lcT {P : Pg} {C : Tn.Call} {el : E} {t : Tg} {i : It} {own : List Nat} {e : Env} {m m' : Mu} {ws : List W} (hm : Wf m') (hi : evI P C i e m = .ok ws m') (hl : ws.length ≤ 1000)
    (h : ∀ w ∈ ws, ∀ acc : List D, lcF t own (evC P C .no) (ev P C el) e w (m' ++ [.lst (acc.map W.d)]) = .ok (some (.bl true)) (m' ++ [.lst (acc.map W.d)])) : ev P C (.blt .all (.cons (.lc el t i .no own) .nil)) e m = .ok (.d (.bl true)) m' := by
  have e1 := lc_map (fun _ => .bl true) hm hi hl h
  rw [ev_blt1, bind_assoc, bind_ok e1]
  show (M.opt ((allBs (ws.map fun _ => D.bl true)).map fun k => W.d (.bl (k.all id)))) m' = _
  rw [allBs_true]
  simp [M.opt, M.ret]
theorem allI_map : ∀ l : List Int, allI (l.map D.int) = some l
  | [] => rfl
  | i :: r => by simp [allI, allI_map r]
theorem minI_of : ∀ (l : List Int) (x : Int), x ∈ l → (∀ y ∈ l, x ≤ y) → minI l = some x
  | [], x, h, _ => by cases h
  | [i], x, h, _ => by simp at h; simp [minI, h]
  | i :: j :: r, x, h, hl => by
    have rec1 : ∀ l : List Int, l ≠ [] → ∃ z, minI l = some z ∧ z ∈ l ∧ ∀ y ∈ l, z ≤ y := fun l => by
      induction l with
      | nil => exact fun h => absurd rfl h
      | cons a l ih =>
        intro _
        cases l with
        | nil => exact ⟨a, rfl, by simp, fun y hy => by simp at hy; omega⟩
        | cons b l =>
          obtain ⟨z, e, h1, h2⟩ := ih (by simp)
          refine ⟨if z < a then z else a, by simp [minI, e], ?_, fun y hy => ?_⟩
          · split
            · exact List.mem_cons_of_mem _ h1
            · simp
          · rcases List.mem_cons.mp hy with rfl | hy
            · split <;> omega
            · have := h2 y hy
              split <;> omega
    obtain ⟨z, e, h1, h2⟩ := rec1 (i :: j :: r) (by simp)
    have a1 := h2 x h
    have a2 := hl z h1
    have : z = x := by omega
    rw [e, this]

/-! ### ties that are refused -/
def BadP (x : D) : Prop := notI x = true ∨ ∃ i, x = .int i ∧ i < 0
def isBl : D → Bool
  | .bl _ => true
  | _ => false
theorem isint_p (n : Nat) (m : Mu) (x : D) (h : BadP x) : (lev pg (n + 1)).hi 29 [.d x, .d (.int 0), .d .non] m = .ok (.d (.bl false)) m := by
  rcases h with h | ⟨i, rfl, h⟩
  · exact isint_no n m x _ _ h
  · rw [isint2, decide_eq_false (by omega)]
theorem wf_ins {m : Mu} (hm : Wf m) : Wf (m ++ [.ins 0 []]) := fun o ho k => by
  rcases List.mem_append.mp ho with z | z
  · exact hm o z k
  · rw [List.mem_singleton.mp z]
    rfl
section
variable (n : Nat) (m : Mu) (hm : Wf m) (x0 x1 x2 x3 x4 x5 : D)
include hm
theorem init_p0 (h : BadP x0) : (lev pg (n + 2)).hi 19 [.r m.length, .d x0, .d x1, .d x2, .d x3, .d x4, .d x5] (m ++ [.ins 0 []]) = .exc 1 x0 (m ++ [.ins 0 []]) := by
  have e := isint_p n (m ++ [.ins 0 []]) x0 h
  have c := cut_self (wf_ins hm)
  simp only [List.length_append, List.length_singleton] at c
  rw [lev_hi]
  simp [runFn, fn19, execs, exec, evI, seqI, seqD, forL, setT, ev, evs, evO, evC, evAnd, evOr, M.bind, M.ret, M.opt, Out.ofR, startE, tru, truth, isiD, ctOk, tyS, isiT, cmpD, eqE, fnEnd, lev_lo, datOf, bltD, binD, unD, Es.len, M.calm, methF, calF, asB, dund, dunName, isiX, aF0, aF1, aF2, aF3, aF4, aF5, aF6, aF7, aF8, aF9, aF10, aF11, aF12, aF13, aF14, aF15, aF16, aF17, aF18, aF19, aF20, aF21, aF22, aF23, aF24, aF25, aF26, aF27, aF28, aF29, aF30, aF31, aF32, aF33, aF34, aG8, aG16, aG20, aG22, aG24, aG25, aG26, aG27, aG28, aG29, aG30, aG31, aG33, aG35, aG37, aC0, aC1, aC2, aC3, aC4, aC5, aC6, aC7, aC8, aC9, aC10, aC11, aC12, aC13, aC14, aC15, aC16, aC17, aC18, aC19, aC20, aC21, aC22, aC23, aC24, aC25, aA0_25, aA0_24, aA0_23, aA0_22, aA0_21, aA0_20, aP0_19, aP0_18, aP0_17, aP0_16, aP0_14, aP0_15, aP0_13, aP0_26, aM0_0, aS0_12, aK0, e, lev_rm, c]
theorem init_p1 (f : Int) (hf : 0 ≤ f) (h : BadP x1) : (lev pg (n + 2)).hi 19 [.r m.length, .d (.int f), .d x1, .d x2, .d x3, .d x4, .d x5] (m ++ [.ins 0 []]) = .exc 1 x1 (m ++ [.ins 0 []]) := by
  have e := isint_p n (m ++ [.ins 0 []]) x1 h
  have c := cut_self (wf_ins hm)
  simp only [List.length_append, List.length_singleton] at c
  rw [lev_hi]
  simp [runFn, fn19, execs, exec, evI, seqI, seqD, forL, setT, ev, evs, evO, evC, evAnd, evOr, M.bind, M.ret, M.opt, Out.ofR, startE, tru, truth, isiD, ctOk, tyS, isiT, cmpD, eqE, fnEnd, lev_lo, datOf, bltD, binD, unD, Es.len, M.calm, methF, calF, asB, dund, dunName, isiX, aF0, aF1, aF2, aF3, aF4, aF5, aF6, aF7, aF8, aF9, aF10, aF11, aF12, aF13, aF14, aF15, aF16, aF17, aF18, aF19, aF20, aF21, aF22, aF23, aF24, aF25, aF26, aF27, aF28, aF29, aF30, aF31, aF32, aF33, aF34, aG8, aG16, aG20, aG22, aG24, aG25, aG26, aG27, aG28, aG29, aG30, aG31, aG33, aG35, aG37, aC0, aC1, aC2, aC3, aC4, aC5, aC6, aC7, aC8, aC9, aC10, aC11, aC12, aC13, aC14, aC15, aC16, aC17, aC18, aC19, aC20, aC21, aC22, aC23, aC24, aC25, aA0_25, aA0_24, aA0_23, aA0_22, aA0_21, aA0_20, aP0_19, aP0_18, aP0_17, aP0_16, aP0_14, aP0_15, aP0_13, aP0_26, aM0_0, aS0_12, aK0, e, isint2, hf, lev_rm, c]
theorem init_l (f s : Int) (hf : 0 ≤ f) (hs : 0 ≤ s) (h : notI x2 = true ∨ ∃ l, x2 = .int l ∧ (l < 1 ∨ 10 ^ 30 < (if s > f then s else f) + l)) : (lev pg (n + 2)).hi 19 [.r m.length, .d (.int f), .d (.int s), .d x2, .d x3, .d x4, .d x5] (m ++ [.ins 0 []]) = .exc 2 x2 (m ++ [.ins 0 []]) := by
  have c := cut_self (wf_ins hm)
  simp only [List.length_append, List.length_singleton] at c
  have p30 : (10 : Int) ^ 30 = 1000000000000000000000000000000 := by decide
  have e : ∀ y : Int, y = 1000000000000000000000000000000 - (if f < s then s else f) → (lev pg (n + 1)).hi 29 [.d x2, .d (.int 1), .d (.int y)] (m ++ [.ins 0 []]) = .ok (.d (.bl false)) (m ++ [.ins 0 []]) := fun y hy => by
    rcases h with h | ⟨l, rfl, h⟩
    · exact isint_no n _ x2 _ _ h
    · rw [isint3]
      have : (decide (1 ≤ l) && decide (l ≤ y)) = false := by
        rcases h with h | h
        · rw [decide_eq_false (by omega)]; rfl
        · rw [decide_eq_false (p := l ≤ y) (by subst hy; simp only [gt_iff_lt] at h; omega)]; simp
      rw [this]
  have e := e _ rfl
  rw [lev_hi]
  simp [runFn, fn19, execs, exec, evI, seqI, seqD, forL, setT, ev, evs, evO, evC, evAnd, evOr, M.bind, M.ret, M.opt, Out.ofR, startE, tru, truth, isiD, ctOk, tyS, isiT, cmpD, eqE, fnEnd, lev_lo, datOf, bltD, binD, unD, Es.len, M.calm, methF, calF, asB, dund, dunName, isiX, aF0, aF1, aF2, aF3, aF4, aF5, aF6, aF7, aF8, aF9, aF10, aF11, aF12, aF13, aF14, aF15, aF16, aF17, aF18, aF19, aF20, aF21, aF22, aF23, aF24, aF25, aF26, aF27, aF28, aF29, aF30, aF31, aF32, aF33, aF34, aG8, aG16, aG20, aG22, aG24, aG25, aG26, aG27, aG28, aG29, aG30, aG31, aG33, aG35, aG37, aC0, aC1, aC2, aC3, aC4, aC5, aC6, aC7, aC8, aC9, aC10, aC11, aC12, aC13, aC14, aC15, aC16, aC17, aC18, aC19, aC20, aC21, aC22, aC23, aC24, aC25, aA0_25, aA0_24, aA0_23, aA0_22, aA0_21, aA0_20, aP0_19, aP0_18, aP0_17, aP0_16, aP0_14, aP0_15, aP0_13, aP0_26, aM0_0, aS0_12, aK0, e, isint2, hf, hs, lev_rm, c]
theorem init_a (f s l : Int) (hf : 0 ≤ f) (hs : 0 ≤ s) (h1 : 1 ≤ l) (h2 : l ≤ 10 ^ 30 - (if s > f then s else f)) (h : notI x3 = true) : (lev pg (n + 2)).hi 19 [.r m.length, .d (.int f), .d (.int s), .d (.int l), .d x3, .d x4, .d x5] (m ++ [.ins 0 []]) = .exc 3 x3 (m ++ [.ins 0 []]) := by
  have c := cut_self (wf_ins hm)
  simp only [List.length_append, List.length_singleton] at c
  have h3 : l ≤ 1000000000000000000000000000000 - (if f < s then s else f) := h2
  have e := isint_no n (m ++ [.ins 0 []]) x3 (.d .non) (.d .non) h
  rw [lev_hi]
  simp [runFn, fn19, execs, exec, evI, seqI, seqD, forL, setT, ev, evs, evO, evC, evAnd, evOr, M.bind, M.ret, M.opt, Out.ofR, startE, tru, truth, isiD, ctOk, tyS, isiT, cmpD, eqE, fnEnd, lev_lo, datOf, bltD, binD, unD, Es.len, M.calm, methF, calF, asB, dund, dunName, isiX, aF0, aF1, aF2, aF3, aF4, aF5, aF6, aF7, aF8, aF9, aF10, aF11, aF12, aF13, aF14, aF15, aF16, aF17, aF18, aF19, aF20, aF21, aF22, aF23, aF24, aF25, aF26, aF27, aF28, aF29, aF30, aF31, aF32, aF33, aF34, aG8, aG16, aG20, aG22, aG24, aG25, aG26, aG27, aG28, aG29, aG30, aG31, aG33, aG35, aG37, aC0, aC1, aC2, aC3, aC4, aC5, aC6, aC7, aC8, aC9, aC10, aC11, aC12, aC13, aC14, aC15, aC16, aC17, aC18, aC19, aC20, aC21, aC22, aC23, aC24, aC25, aA0_25, aA0_24, aA0_23, aA0_22, aA0_21, aA0_20, aP0_19, aP0_18, aP0_17, aP0_16, aP0_14, aP0_15, aP0_13, aP0_26, aM0_0, aS0_12, aK0, e, isint2, isint3, hf, hs, h1, h3, lev_rm, c]
theorem init_w4 (f s l a : Int) (hf : 0 ≤ f) (hs : 0 ≤ s) (h1 : 1 ≤ l) (h2 : l ≤ 10 ^ 30 - (if s > f then s else f)) (h : (∃ i, x4 = .int i) ∨ notI x4 = true ∧ isBl x4 = false) : (lev pg (n + 2)).hi 19 [.r m.length, .d (.int f), .d (.int s), .d (.int l), .d (.int a), .d x4, .d x5] (m ++ [.ins 0 []]) = .exc 4 x4 (m ++ [.ins 0 []]) := by
  have c := cut_self (wf_ins hm)
  simp only [List.length_append, List.length_singleton] at c
  have h3 : l ≤ 1000000000000000000000000000000 - (if f < s then s else f) := h2
  rw [lev_hi]
  rcases h with ⟨i, rfl⟩ | ⟨h, h'⟩
  · simp [runFn, fn19, execs, exec, evI, seqI, seqD, forL, setT, ev, evs, evO, evC, evAnd, evOr, M.bind, M.ret, M.opt, Out.ofR, startE, tru, truth, isiD, ctOk, tyS, isiT, cmpD, eqE, fnEnd, lev_lo, datOf, bltD, binD, unD, Es.len, M.calm, methF, calF, asB, dund, dunName, isiX, aF0, aF1, aF2, aF3, aF4, aF5, aF6, aF7, aF8, aF9, aF10, aF11, aF12, aF13, aF14, aF15, aF16, aF17, aF18, aF19, aF20, aF21, aF22, aF23, aF24, aF25, aF26, aF27, aF28, aF29, aF30, aF31, aF32, aF33, aF34, aG8, aG16, aG20, aG22, aG24, aG25, aG26, aG27, aG28, aG29, aG30, aG31, aG33, aG35, aG37, aC0, aC1, aC2, aC3, aC4, aC5, aC6, aC7, aC8, aC9, aC10, aC11, aC12, aC13, aC14, aC15, aC16, aC17, aC18, aC19, aC20, aC21, aC22, aC23, aC24, aC25, aA0_25, aA0_24, aA0_23, aA0_22, aA0_21, aA0_20, aP0_19, aP0_18, aP0_17, aP0_16, aP0_14, aP0_15, aP0_13, aP0_26, aM0_0, aS0_12, aK0, isint1, isint2, isint3, hf, hs, h1, h3, lev_rm, c]
  · cases x4 <;> first | (cases h; done) | (cases h'; done) | simp [runFn, fn19, execs, exec, evI, seqI, seqD, forL, setT, ev, evs, evO, evC, evAnd, evOr, M.bind, M.ret, M.opt, Out.ofR, startE, tru, truth, isiD, ctOk, tyS, isiT, cmpD, eqE, fnEnd, lev_lo, datOf, bltD, binD, unD, Es.len, M.calm, methF, calF, asB, dund, dunName, isiX, aF0, aF1, aF2, aF3, aF4, aF5, aF6, aF7, aF8, aF9, aF10, aF11, aF12, aF13, aF14, aF15, aF16, aF17, aF18, aF19, aF20, aF21, aF22, aF23, aF24, aF25, aF26, aF27, aF28, aF29, aF30, aF31, aF32, aF33, aF34, aG8, aG16, aG20, aG22, aG24, aG25, aG26, aG27, aG28, aG29, aG30, aG31, aG33, aG35, aG37, aC0, aC1, aC2, aC3, aC4, aC5, aC6, aC7, aC8, aC9, aC10, aC11, aC12, aC13, aC14, aC15, aC16, aC17, aC18, aC19, aC20, aC21, aC22, aC23, aC24, aC25, aA0_25, aA0_24, aA0_23, aA0_22, aA0_21, aA0_20, aP0_19, aP0_18, aP0_17, aP0_16, aP0_14, aP0_15, aP0_13, aP0_26, aM0_0, aS0_12, aK0, isint1, isint2, isint3, hf, hs, h1, h3, lev_rm, c]
theorem init_w5 (f s l a : Int) (d : Bool) (hf : 0 ≤ f) (hs : 0 ≤ s) (h1 : 1 ≤ l) (h2 : l ≤ 10 ^ 30 - (if s > f then s else f)) (h : (∃ i, x5 = .int i) ∨ notI x5 = true ∧ isBl x5 = false) : (lev pg (n + 2)).hi 19 [.r m.length, .d (.int f), .d (.int s), .d (.int l), .d (.int a), .d (.bl d), .d x5] (m ++ [.ins 0 []]) = .exc 4 x5 (m ++ [.ins 0 []]) := by
  have c := cut_self (wf_ins hm)
  simp only [List.length_append, List.length_singleton] at c
  have h3 : l ≤ 1000000000000000000000000000000 - (if f < s then s else f) := h2
  rw [lev_hi]
  rcases h with ⟨i, rfl⟩ | ⟨h, h'⟩
  · simp [runFn, fn19, execs, exec, evI, seqI, seqD, forL, setT, ev, evs, evO, evC, evAnd, evOr, M.bind, M.ret, M.opt, Out.ofR, startE, tru, truth, isiD, ctOk, tyS, isiT, cmpD, eqE, fnEnd, lev_lo, datOf, bltD, binD, unD, Es.len, M.calm, methF, calF, asB, dund, dunName, isiX, aF0, aF1, aF2, aF3, aF4, aF5, aF6, aF7, aF8, aF9, aF10, aF11, aF12, aF13, aF14, aF15, aF16, aF17, aF18, aF19, aF20, aF21, aF22, aF23, aF24, aF25, aF26, aF27, aF28, aF29, aF30, aF31, aF32, aF33, aF34, aG8, aG16, aG20, aG22, aG24, aG25, aG26, aG27, aG28, aG29, aG30, aG31, aG33, aG35, aG37, aC0, aC1, aC2, aC3, aC4, aC5, aC6, aC7, aC8, aC9, aC10, aC11, aC12, aC13, aC14, aC15, aC16, aC17, aC18, aC19, aC20, aC21, aC22, aC23, aC24, aC25, aA0_25, aA0_24, aA0_23, aA0_22, aA0_21, aA0_20, aP0_19, aP0_18, aP0_17, aP0_16, aP0_14, aP0_15, aP0_13, aP0_26, aM0_0, aS0_12, aK0, isint1, isint2, isint3, hf, hs, h1, h3, lev_rm, c]
  · cases x5 <;> first | (cases h; done) | (cases h'; done) | simp [runFn, fn19, execs, exec, evI, seqI, seqD, forL, setT, ev, evs, evO, evC, evAnd, evOr, M.bind, M.ret, M.opt, Out.ofR, startE, tru, truth, isiD, ctOk, tyS, isiT, cmpD, eqE, fnEnd, lev_lo, datOf, bltD, binD, unD, Es.len, M.calm, methF, calF, asB, dund, dunName, isiX, aF0, aF1, aF2, aF3, aF4, aF5, aF6, aF7, aF8, aF9, aF10, aF11, aF12, aF13, aF14, aF15, aF16, aF17, aF18, aF19, aF20, aF21, aF22, aF23, aF24, aF25, aF26, aF27, aF28, aF29, aF30, aF31, aF32, aF33, aF34, aG8, aG16, aG20, aG22, aG24, aG25, aG26, aG27, aG28, aG29, aG30, aG31, aG33, aG35, aG37, aC0, aC1, aC2, aC3, aC4, aC5, aC6, aC7, aC8, aC9, aC10, aC11, aC12, aC13, aC14, aC15, aC16, aC17, aC18, aC19, aC20, aC21, aC22, aC23, aC24, aC25, aA0_25, aA0_24, aA0_23, aA0_22, aA0_21, aA0_20, aP0_19, aP0_18, aP0_17, aP0_16, aP0_14, aP0_15, aP0_13, aP0_26, aM0_0, aS0_12, aK0, isint1, isint2, isint3, hf, hs, h1, h3, lev_rm, c]
theorem mk_exc (c : Nat) (v : D) (h : (lev pg (n + 2)).hi 19 [.r m.length, .d x0, .d x1, .d x2, .d x3, .d x4, .d x5] (m ++ [.ins 0 []]) = .exc c v (m ++ [.ins 0 []])) : mkObj pg (lev pg (n + 3)) 0 [.d x0, .d x1, .d x2, .d x3, .d x4, .d x5] m = .exc c v m := by
  have hc : cutMu m.length (m ++ [.ins 0 []]) = some m := by
    have e : (m ++ [MO.ins 0 []]).take m.length = m := by simp
    rw [cut_wf (by rw [e]; exact hm), e]
  simp [mkObj, aK0, pgCls0, lev_lo, h, hc]
theorem ltie_exc (c : Nat) (v : D) (h : mkObj pg (lev pg (n + 3)) 0 [.d x0, .d x1, .d x2, .d x3, .d x4, .d x5] m = .exc c v m) : (lev pg (n + 4)).hi 12 [.d (.tup [x0, x1, x2, x3, x4, x5])] m = .exc c v m := by
  rw [lev_hi]
  simp [runFn, fn12, execs, exec, evI, seqI, seqD, forL, setT, ev, evs, evO, evC, evAnd, evOr, M.bind, M.ret, M.opt, Out.ofR, startE, tru, truth, isiD, ctOk, tyS, isiT, cmpD, eqE, fnEnd, lev_lo, datOf, bltD, binD, unD, Es.len, M.calm, methF, calF, asB, dund, dunName, isiX, aF0, aF1, aF2, aF3, aF4, aF5, aF6, aF7, aF8, aF9, aF10, aF11, aF12, aF13, aF14, aF15, aF16, aF17, aF18, aF19, aF20, aF21, aF22, aF23, aF24, aF25, aF26, aF27, aF28, aF29, aF30, aF31, aF32, aF33, aF34, aG8, aG16, aG20, aG22, aG24, aG25, aG26, aG27, aG28, aG29, aG30, aG31, aG33, aG35, aG37, aC0, aC1, aC2, aC3, aC4, aC5, aC6, aC7, aC8, aC9, aC10, aC11, aC12, aC13, aC14, aC15, aC16, aC17, aC18, aC19, aC20, aC21, aC22, aC23, aC24, aC25, aA0_25, aA0_24, aA0_23, aA0_22, aA0_21, aA0_20, aP0_19, aP0_18, aP0_17, aP0_16, aP0_14, aP0_15, aP0_13, aP0_26, aM0_0, aS0_12, aK0, seqOf, subD, L2.ixN, h, cut_self hm]
theorem ltie_mk (w : W) (h : mkObj pg (lev pg (n + 3)) 0 [.d x0, .d x1, .d x2, .d x3, .d x4, .d x5] m = .ok w m) : (lev pg (n + 4)).hi 12 [.d (.tup [x0, x1, x2, x3, x4, x5])] m = .ok w m := by
  rw [lev_hi]
  simp [runFn, fn12, execs, exec, evI, seqI, seqD, forL, setT, ev, evs, evO, evC, evAnd, evOr, M.bind, M.ret, M.opt, Out.ofR, startE, tru, truth, isiD, ctOk, tyS, isiT, cmpD, eqE, fnEnd, lev_lo, datOf, bltD, binD, unD, Es.len, M.calm, methF, calF, asB, dund, dunName, isiX, aF0, aF1, aF2, aF3, aF4, aF5, aF6, aF7, aF8, aF9, aF10, aF11, aF12, aF13, aF14, aF15, aF16, aF17, aF18, aF19, aF20, aF21, aF22, aF23, aF24, aF25, aF26, aF27, aF28, aF29, aF30, aF31, aF32, aF33, aF34, aG8, aG16, aG20, aG22, aG24, aG25, aG26, aG27, aG28, aG29, aG30, aG31, aG33, aG35, aG37, aC0, aC1, aC2, aC3, aC4, aC5, aC6, aC7, aC8, aC9, aC10, aC11, aC12, aC13, aC14, aC15, aC16, aC17, aC18, aC19, aC20, aC21, aC22, aC23, aC24, aC25, aA0_25, aA0_24, aA0_23, aA0_22, aA0_21, aA0_20, aP0_19, aP0_18, aP0_17, aP0_16, aP0_14, aP0_15, aP0_13, aP0_26, aM0_0, aS0_12, aK0, seqOf, subD, L2.ixN, h, cut_self hm]
end

theorem rp_str {x : D} (h : Rp x) : ∃ z, reprD x = some (.str z) := by
  obtain ⟨p, e1, b1, d1⟩ := h
  have hb : x.bnd ≤ strTop := by simp [strTop]; omega
  have hd : p.depth ≤ 64 := by omega
  exact ⟨p.shown, by unfold reprD; simp [e1, hb, hd]⟩

/-! ### numbers told by words -/
def oD : Option Int → D
  | some i => .int i
  | none => .non
theorem eqE_str (x y : Str) : eqE (.str x) (.str y) = some (x == y) := by
  unfold eqE
  rw [eqP_str]
theorem allBs_map (l : List Bool) : allBs (l.map D.bl) = some l := by
  induction l with
  | nil => rfl
  | cons a r ih => simp [allBs, ih]
/-- all([.. for ..]) of truth values -/
theorem all_lcB {P : Pg} {C : Tn.Call} {el : E} {t : Tg} {i : It} {own : List Nat} {e : Env} {m m' : Mu} {ws : List W} (g : W → Bool) (hm : Wf m') (hi : evI P C i e m = .ok ws m') (hl : ws.length ≤ 1000)
    (h : ∀ w ∈ ws, ∀ acc : List D, lcF t own (evC P C .no) (ev P C el) e w (m' ++ [.lst (acc.map W.d)]) = .ok (some (.bl (g w))) (m' ++ [.lst (acc.map W.d)])) : ev P C (.blt .all (.cons (.lc el t i .no own) .nil)) e m = .ok (.d (.bl (ws.all g))) m' := by
  have e1 := lc_map (fun w => .bl (g w)) hm hi hl h
  rw [ev_blt1, bind_assoc, bind_ok e1]
  show (M.opt ((allBs (ws.map fun w => D.bl (g w))).map fun k => W.d (.bl (k.all id)))) m' = _
  have e2 : ws.map (fun w => D.bl (g w)) = (ws.map g).map D.bl := by rw [List.map_map]; rfl
  rw [e2, allBs_map]
  simp [M.opt, M.ret]
theorem ev_or2 (P : Pg) (C : Tn.Call) (A B : E) (e : Env) (m : Mu) : ev P C (.or (.cons A (.cons B .nil))) e m = ((ev P C A e).bind fun x => (tru x).bind fun k => match k with | true => M.ret x | false => ev P C B e) m := rfl
theorem ev_and2 (P : Pg) (C : Tn.Call) (A B : E) (e : Env) (m : Mu) : ev P C (.and (.cons A (.cons B .nil))) e m = ((ev P C A e).bind fun x => (tru x).bind fun k => match k with | true => ev P C B e | false => M.ret x) m := rfl
abbrev nBd : Ss := fn32.body
abbrev figE : E := .blt .all (.cons (.lc (.cmp .In (.var 2) (.glo 37)) (.nm 2) (.seq (.var 1)) .no [2]) .nil)
theorem nBd_eq : nBd = .cons (.asg (.nm 1) (.sm .rmp (.var 0) (.cons (.cst (.str (Str.ofString "-"))) .nil))) (.cons (.ite (.or (.cons (.cmp .Eq (.var 1) (.cst (.str (Str.ofString "")))) (.cons (.not figE) .nil))) (.cons (.ret (.cst .non)) .nil) .nil) (.cons (sAt nBd 2) (.cons (sAt nBd 3) .nil))) := rfl
theorem nt_ok (n : Nat) (m : Mu) (hm : Wf m) (w : Str) (hs : sOkB (figs w) = true) (hl : w.length ≤ 640) : (lev pg (n + 1)).hi 32 [.d (.str w)] m = .ok (.d (oD (numW w))) m := by
  have hs' : sOkB (Txt.removeprefix w (Str.ofString "-")) = true := hs
  have q0 : exec pg (lev pg n) (.asg (.nm 1) (.sm .rmp (.var 0) (.cons (.cst (.str (Str.ofString "-"))) .nil))) [some (.d (.str w)), none, none] m = .nx [some (.d (.str w)), some (.d (.str (figs w))), none] m := by
    simp [execs, exec, evI, seqI, seqD, forL, setT, ev, evs, evO, evC, evAnd, evOr, M.bind, M.ret, M.opt, Out.ofR, startE, tru, truth, isiD, ctOk, tyS, isiT, cmpD, eqE, fnEnd, lev_lo, datOf, bltD, binD, unD, Es.len, M.calm, methF, calF, asB, dund, dunName, isiX, aF0, aF1, aF2, aF3, aF4, aF5, aF6, aF7, aF8, aF9, aF10, aF11, aF12, aF13, aF14, aF15, aF16, aF17, aF18, aF19, aF20, aF21, aF22, aF23, aF24, aF25, aF26, aF27, aF28, aF29, aF30, aF31, aF32, aF33, aF34, aG8, aG16, aG20, aG22, aG24, aG25, aG26, aG27, aG28, aG29, aG30, aG31, aG33, aG35, aG37, aC0, aC1, aC2, aC3, aC4, aC5, aC6, aC7, aC8, aC9, aC10, aC11, aC12, aC13, aC14, aC15, aC16, aC17, aC18, aC19, aC20, aC21, aC22, aC23, aC24, aC25, aA0_25, aA0_24, aA0_23, aA0_22, aA0_21, aA0_20, aP0_19, aP0_18, aP0_17, aP0_16, aP0_14, aP0_15, aP0_13, aP0_26, aM0_0, aS0_12, aK0, strOf, smD, hs', figs]
  have fl : (TL.tl (figs w)).length ≤ 640 := by
    have h1 := TL.len_tl w
    rw [tl_figs]
    split
    · simp only [List.length_tail]; omega
    · omega
  have e1 : ev pg (lev pg n) figE [some (.d (.str w)), some (.d (.str (figs w))), none] m = .ok (.d (.bl ((TL.tl (figs w)).all isFig))) m := by
    have z := all_lcB (P := pg) (C := lev pg n) (el := .cmp .In (.var 2) (.glo 37)) (t := .nm 2) (i := .seq (.var 1)) (own := [2]) (e := [some (.d (.str w)), some (.d (.str (figs w))), none]) (m := m) (m' := m) (ws := (TL.tl (figs w)).map fun c => .d (.str ⟨#[c]⟩)) (fun x => match x with | .d (.str x) => x.cps.toList.all isFig | _ => false) hm (by simp [execs, exec, evI, seqI, seqD, forL, setT, ev, evs, evO, evC, evAnd, evOr, M.bind, M.ret, M.opt, Out.ofR, startE, tru, truth, isiD, ctOk, tyS, isiT, cmpD, eqE, fnEnd, lev_lo, datOf, bltD, binD, unD, Es.len, M.calm, methF, calF, asB, dund, dunName, isiX, aF0, aF1, aF2, aF3, aF4, aF5, aF6, aF7, aF8, aF9, aF10, aF11, aF12, aF13, aF14, aF15, aF16, aF17, aF18, aF19, aF20, aF21, aF22, aF23, aF24, aF25, aF26, aF27, aF28, aF29, aF30, aF31, aF32, aF33, aF34, aG8, aG16, aG20, aG22, aG24, aG25, aG26, aG27, aG28, aG29, aG30, aG31, aG33, aG35, aG37, aC0, aC1, aC2, aC3, aC4, aC5, aC6, aC7, aC8, aC9, aC10, aC11, aC12, aC13, aC14, aC15, aC16, aC17, aC18, aC19, aC20, aC21, aC22, aC23, aC24, aC25, aA0_25, aA0_24, aA0_23, aA0_22, aA0_21, aA0_20, aP0_19, aP0_18, aP0_17, aP0_16, aP0_14, aP0_15, aP0_13, aP0_26, aM0_0, aS0_12, aK0]) (by simp; exact Nat.le_trans (by simpa using fl) (by decide)) (fun x hx acc => by
      obtain ⟨c, _, rfl⟩ := List.mem_map.mp hx
      simp [lcF, wipeE, datM, execs, exec, evI, seqI, seqD, forL, setT, ev, evs, evO, evC, evAnd, evOr, M.bind, M.ret, M.opt, Out.ofR, startE, tru, truth, isiD, ctOk, tyS, isiT, cmpD, eqE, fnEnd, lev_lo, datOf, bltD, binD, unD, Es.len, M.calm, methF, calF, asB, dund, dunName, isiX, aF0, aF1, aF2, aF3, aF4, aF5, aF6, aF7, aF8, aF9, aF10, aF11, aF12, aF13, aF14, aF15, aF16, aF17, aF18, aF19, aF20, aF21, aF22, aF23, aF24, aF25, aF26, aF27, aF28, aF29, aF30, aF31, aF32, aF33, aF34, aG8, aG16, aG20, aG22, aG24, aG25, aG26, aG27, aG28, aG29, aG30, aG31, aG33, aG35, aG37, aC0, aC1, aC2, aC3, aC4, aC5, aC6, aC7, aC8, aC9, aC10, aC11, aC12, aC13, aC14, aC15, aC16, aC17, aC18, aC19, aC20, aC21, aC22, aC23, aC24, aC25, aA0_25, aA0_24, aA0_23, aA0_22, aA0_21, aA0_20, aP0_19, aP0_18, aP0_17, aP0_16, aP0_14, aP0_15, aP0_13, aP0_26, aM0_0, aS0_12, aK0, inD, isFig])
    rw [z]
    congr 3
    rw [List.all_map]
    congr 1
    funext c
    simp
  have q1 : exec pg (lev pg n) (.ite (.or (.cons (.cmp .Eq (.var 1) (.cst (.str (Str.ofString "")))) (.cons (.not figE) .nil))) (.cons (.ret (.cst .non)) .nil) .nil) [some (.d (.str w)), some (.d (.str (figs w))), none] m = if ((figs w == Str.ofString "") || !(TL.tl (figs w)).all isFig) = true then .rt (.d .non) m else .nx [some (.d (.str w)), some (.d (.str (figs w))), none] m := by
    have a1 : ev pg (lev pg n) (.cmp .Eq (.var 1) (.cst (.str (Str.ofString "")))) [some (.d (.str w)), some (.d (.str (figs w))), none] m = .ok (.d (.bl (figs w == Str.ofString ""))) m := by
      have := eqP_str (figs w) (Str.ofString "")
      simp [execs, exec, evI, seqI, seqD, forL, setT, ev, evs, evO, evC, evAnd, evOr, M.bind, M.ret, M.opt, Out.ofR, startE, tru, truth, isiD, ctOk, tyS, isiT, cmpD, eqE, fnEnd, lev_lo, datOf, bltD, binD, unD, Es.len, M.calm, methF, calF, asB, dund, dunName, isiX, aF0, aF1, aF2, aF3, aF4, aF5, aF6, aF7, aF8, aF9, aF10, aF11, aF12, aF13, aF14, aF15, aF16, aF17, aF18, aF19, aF20, aF21, aF22, aF23, aF24, aF25, aF26, aF27, aF28, aF29, aF30, aF31, aF32, aF33, aF34, aG8, aG16, aG20, aG22, aG24, aG25, aG26, aG27, aG28, aG29, aG30, aG31, aG33, aG35, aG37, aC0, aC1, aC2, aC3, aC4, aC5, aC6, aC7, aC8, aC9, aC10, aC11, aC12, aC13, aC14, aC15, aC16, aC17, aC18, aC19, aC20, aC21, aC22, aC23, aC24, aC25, aA0_25, aA0_24, aA0_23, aA0_22, aA0_21, aA0_20, aP0_19, aP0_18, aP0_17, aP0_16, aP0_14, aP0_15, aP0_13, aP0_26, aM0_0, aS0_12, aK0, this]
    have a2 : ev pg (lev pg n) (.not figE) [some (.d (.str w)), some (.d (.str (figs w))), none] m = .ok (.d (.bl (!(TL.tl (figs w)).all isFig))) m := by
      rw [ev_not, bind_ok e1]
      rfl
    have a3 : ev pg (lev pg n) (.or (.cons (.cmp .Eq (.var 1) (.cst (.str (Str.ofString "")))) (.cons (.not figE) .nil))) [some (.d (.str w)), some (.d (.str (figs w))), none] m = .ok (.d (.bl ((figs w == Str.ofString "") || !(TL.tl (figs w)).all isFig))) m := by
      rw [ev_or2, bind_ok a1]
      cases (figs w == Str.ofString "")
      · exact a2
      · rfl
    rw [exec, a3]
    cases ((figs w == Str.ofString "") || !(TL.tl (figs w)).all isFig) <;> simp [execs, exec, evI, seqI, seqD, forL, setT, ev, evs, evO, evC, evAnd, evOr, M.bind, M.ret, M.opt, Out.ofR, startE, tru, truth, isiD, ctOk, tyS, isiT, cmpD, eqE, fnEnd, lev_lo, datOf, bltD, binD, unD, Es.len, M.calm, methF, calF, asB, dund, dunName, isiX, aF0, aF1, aF2, aF3, aF4, aF5, aF6, aF7, aF8, aF9, aF10, aF11, aF12, aF13, aF14, aF15, aF16, aF17, aF18, aF19, aF20, aF21, aF22, aF23, aF24, aF25, aF26, aF27, aF28, aF29, aF30, aF31, aF32, aF33, aF34, aG8, aG16, aG20, aG22, aG24, aG25, aG26, aG27, aG28, aG29, aG30, aG31, aG33, aG35, aG37, aC0, aC1, aC2, aC3, aC4, aC5, aC6, aC7, aC8, aC9, aC10, aC11, aC12, aC13, aC14, aC15, aC16, aC17, aC18, aC19, aC20, aC21, aC22, aC23, aC24, aC25, aA0_25, aA0_24, aA0_23, aA0_22, aA0_21, aA0_20, aP0_19, aP0_18, aP0_17, aP0_16, aP0_14, aP0_15, aP0_13, aP0_26, aM0_0, aS0_12, aK0]
  have fin : ∀ r, execs pg (lev pg n) nBd [some (.d (.str w)), none, none] m = .rt (.d r) m → (lev pg (n + 1)).hi 32 [.d (.str w)] m = .ok (.d r) m := fun r h => by
    rw [lev_hi]
    unfold runFn
    rw [aF32]
    have s3 : startE fn32.ns [W.d (.str w)] = [some (.d (.str w)), none, none] := rfl
    simp only [s3]
    show (if 1 = fn32.np then (match execs pg (lev pg n) nBd _ m with | .nx _ m1 => _ | .rt w m1 => _ | .ex c x _ m1 => _ | _ => _) else _) = _
    rw [h]
    simp [fn32, fnEnd]
  refine fin _ ?_
  rw [nBd_eq, xs_cons _ _ _ _ _ _ _ _ q0]
  unfold numW
  cases hA : ((figs w == Str.ofString "") || !(TL.tl (figs w)).all isFig) with
  | true =>
    rw [hA, if_pos rfl] at q1
    simp only [execs, q1]
    rfl
  | false =>
    rw [hA, if_neg (by decide)] at q1
    rw [xs_cons _ _ _ _ _ _ _ _ q1]
    obtain ⟨b1, b2⟩ := Bool.or_eq_false_iff.mp hA
    have b2 : (TL.tl (figs w)).all isFig = true := by simpa using b2
    have ne : TL.tl (figs w) ≠ [] := fun z => by
      rw [str_ext, z] at b1
      simp [show TL.tl (Str.ofString "") = [] by decide] at b1
    obtain ⟨c, r, hcr⟩ : ∃ c r, (figs w).cps.toList = c :: r := by
      cases q : TL.tl (figs w) with
      | nil => exact absurd q ne
      | cons c r => exact ⟨c, r, q⟩
    have hcr' : TL.tl (figs w) = c :: r := hcr
    have c0 : ((⟨#[c]⟩ : Str) == Str.ofString "0") = (some c == some 48) := by
      rw [str_ext, show TL.tl (Str.ofString "0") = [48] by decide, show TL.tl (⟨#[c]⟩ : Str) = [c] from rfl, Bool.eq_iff_iff]
      simp
    have ix : L2.ixN (c :: r).length 0 = some 0 := by
      unfold L2.ixN
      rw [if_pos (by decide), if_pos (by simp)]
      rfl
    have e2 : eqP (.str ⟨#[c]⟩) (.str (Str.ofString "0")) = some (some c == some 48) := by rw [eqP_str, c0]
    have e3 := eqP_str w (Str.ofString "0")
    have q2 : exec pg (lev pg n) (sAt nBd 2) [some (.d (.str w)), some (.d (.str (figs w))), none] m = if ((TL.tl (figs w)).head? == some 48 && w != Str.ofString "0") = true then .rt (.d .non) m else .nx [some (.d (.str w)), some (.d (.str (figs w))), none] m := by
      rw [hcr']
      have sb : ∀ m', subD (.d (.str (figs w))) (.d (.int 0)) m' = some (.d (.str ⟨#[c]⟩)) := fun m' => by
        unfold subD
        simp only [hcr, ix]
        rfl
      cases k1 : (some c == some 48) <;> cases k2 : (w == Str.ofString "0") <;> rw [k1] at e2 <;> rw [k2] at e3 <;> simp [sAt, nBd, fn32, execs, exec, evI, seqI, seqD, forL, setT, ev, evs, evO, evC, evAnd, evOr, M.bind, M.ret, M.opt, Out.ofR, startE, tru, truth, isiD, ctOk, tyS, isiT, cmpD, eqE, fnEnd, lev_lo, datOf, bltD, binD, unD, Es.len, M.calm, methF, calF, asB, dund, dunName, isiX, aF0, aF1, aF2, aF3, aF4, aF5, aF6, aF7, aF8, aF9, aF10, aF11, aF12, aF13, aF14, aF15, aF16, aF17, aF18, aF19, aF20, aF21, aF22, aF23, aF24, aF25, aF26, aF27, aF28, aF29, aF30, aF31, aF32, aF33, aF34, aG8, aG16, aG20, aG22, aG24, aG25, aG26, aG27, aG28, aG29, aG30, aG31, aG33, aG35, aG37, aC0, aC1, aC2, aC3, aC4, aC5, aC6, aC7, aC8, aC9, aC10, aC11, aC12, aC13, aC14, aC15, aC16, aC17, aC18, aC19, aC20, aC21, aC22, aC23, aC24, aC25, aA0_25, aA0_24, aA0_23, aA0_22, aA0_21, aA0_20, aP0_19, aP0_18, aP0_17, aP0_16, aP0_14, aP0_15, aP0_13, aP0_26, aM0_0, aS0_12, aK0, sb, e2, e3, k1, k2, bne]
    cases hB : ((TL.tl (figs w)).head? == some 48 && w != Str.ofString "0") with
    | true =>
      rw [hB, if_pos rfl] at q2
      simp only [execs, q2]
      rfl
    | false =>
      rw [hB, if_neg (by decide)] at q2
      rw [xs_cons _ _ _ _ _ _ _ _ q2]
      have hv := fig_text (w := w) (by omega) ne (all_fig b2)
      have q3 : exec pg (lev pg n) (sAt nBd 3) [some (.d (.str w)), some (.d (.str (figs w))), none] m = .rt (.d (oD (intText? w))) m := by
        rw [hv]
        simp [sAt, nBd, fn32, execs, exec, evI, seqI, seqD, forL, setT, ev, evs, evO, evC, evAnd, evOr, M.bind, M.ret, M.opt, Out.ofR, startE, tru, truth, isiD, ctOk, tyS, isiT, cmpD, eqE, fnEnd, lev_lo, datOf, bltD, binD, unD, Es.len, M.calm, methF, calF, asB, dund, dunName, isiX, aF0, aF1, aF2, aF3, aF4, aF5, aF6, aF7, aF8, aF9, aF10, aF11, aF12, aF13, aF14, aF15, aF16, aF17, aF18, aF19, aF20, aF21, aF22, aF23, aF24, aF25, aF26, aF27, aF28, aF29, aF30, aF31, aF32, aF33, aF34, aG8, aG16, aG20, aG22, aG24, aG25, aG26, aG27, aG28, aG29, aG30, aG31, aG33, aG35, aG37, aC0, aC1, aC2, aC3, aC4, aC5, aC6, aC7, aC8, aC9, aC10, aC11, aC12, aC13, aC14, aC15, aC16, aC17, aC18, aC19, aC20, aC21, aC22, aC23, aC24, aC25, aA0_25, aA0_24, aA0_23, aA0_22, aA0_21, aA0_20, aP0_19, aP0_18, aP0_17, aP0_16, aP0_14, aP0_15, aP0_13, aP0_26, aM0_0, aS0_12, aK0, hl, hv, oD]
      simp only [execs, q3]
      rfl

theorem pys_oD : ∀ os : List (Option Int), D.pys (os.map oD) = some (os.map fun o => match o with | some i => PyData.int i | none => .none)
  | [] => rfl
  | some i :: r => by simp [D.pys, D.py, oD, pys_oD r]
  | none :: r => by simp [D.pys, D.py, oD, pys_oD r]
theorem lay_oD : ∀ os : List (Option Int), PyData.plainAll (os.map fun o => match o with | some i => PyData.int i | none => .none) = true ∧ PyData.depthAll (os.map fun o => match o with | some i => PyData.int i | none => .none) ≤ 3
  | [] => by simp [PyData.plainAll, PyData.depthAll]
  | o :: r => by
    obtain ⟨h1, h2⟩ := lay_oD r
    cases o <;> exact ⟨by simp [PyData.plainAll, PyData.plain, h1], by simp [PyData.depthAll, PyData.depth]; omega⟩
theorem in_non (os : List (Option Int)) : inD .non (.lst (os.map oD)) = some (os.any Option.isNone) := by
  obtain ⟨h1, h2⟩ := lay_oD os
  have h3 : decide (PyData.depthAll (os.map fun o => match o with | some i => PyData.int i | none => .none) ≤ 32) = true := decide_eq_true (by omega)
  have h4 : shp .none = true := by decide
  simp only [inD, inQ, D.py, pys_oD, h1, h3, h4, Bool.and_self, cond_true]
  congr 1
  rw [List.any_map]
  congr 1
  funext o
  cases o <;> simp [PyData.eqv]
/-- a word that may be asked for its number -/
def WdOk (w : Str) : Prop := sOkB (figs w) = true ∧ w.length ≤ 640
abbrev nsL : E := .lc (.call 36 (.cons (.var 2) .nil) [] .nil) (.nm 2) (.seq (.var 0)) .no [2]
theorem ns_ok (n : Nat) (m : Mu) (hm : Wf m) (ws : List Str) (hw : ∀ w ∈ ws, WdOk w) (hl : ws.length ≤ 1000) : (lev pg (n + 2)).hi 31 [.d (.lst (ws.map D.str))] m = .ok (.d (if (ws.map numW).any Option.isNone then .non else .lst ((ws.map numW).map oD))) m := by
  have e1 := lc_map (P := pg) (C := lev pg (n + 1)) (el := .call 36 (.cons (.var 2) .nil) [] .nil) (t := .nm 2) (i := .seq (.var 0)) (own := [2]) (e := [some (.d (.lst (ws.map D.str))), none, none]) (m := m) (m' := m) (ws := (ws.map D.str).map W.d) (fun w => match w with | .d (.str x) => oD (numW x) | _ => .non) hm (by simp [execs, exec, evI, seqI, seqD, forL, setT, ev, evs, evO, evC, evAnd, evOr, M.bind, M.ret, M.opt, Out.ofR, startE, tru, truth, isiD, ctOk, tyS, isiT, cmpD, eqE, fnEnd, lev_lo, datOf, bltD, binD, unD, Es.len, M.calm, methF, calF, asB, dund, dunName, isiX, aF0, aF1, aF2, aF3, aF4, aF5, aF6, aF7, aF8, aF9, aF10, aF11, aF12, aF13, aF14, aF15, aF16, aF17, aF18, aF19, aF20, aF21, aF22, aF23, aF24, aF25, aF26, aF27, aF28, aF29, aF30, aF31, aF32, aF33, aF34, aG8, aG16, aG20, aG22, aG24, aG25, aG26, aG27, aG28, aG29, aG30, aG31, aG33, aG35, aG37, aC0, aC1, aC2, aC3, aC4, aC5, aC6, aC7, aC8, aC9, aC10, aC11, aC12, aC13, aC14, aC15, aC16, aC17, aC18, aC19, aC20, aC21, aC22, aC23, aC24, aC25, aA0_25, aA0_24, aA0_23, aA0_22, aA0_21, aA0_20, aP0_19, aP0_18, aP0_17, aP0_16, aP0_14, aP0_15, aP0_13, aP0_26, aM0_0, aS0_12, aK0]) (by simpa using hl) (fun w hw' acc => by
    obtain ⟨x, hx, rfl⟩ := List.mem_map.mp hw'
    obtain ⟨y, hy, rfl⟩ := List.mem_map.mp hx
    obtain ⟨k1, k2⟩ := hw y hy
    have z := nt_ok n (m ++ [MO.lst (acc.map W.d)]) (dl_wf hm acc) y k1 k2
    simp [lcF, wipeE, datM, execs, exec, evI, seqI, seqD, forL, setT, ev, evs, evO, evC, evAnd, evOr, M.bind, M.ret, M.opt, Out.ofR, startE, tru, truth, isiD, ctOk, tyS, isiT, cmpD, eqE, fnEnd, lev_lo, datOf, bltD, binD, unD, Es.len, M.calm, methF, calF, asB, dund, dunName, isiX, aF0, aF1, aF2, aF3, aF4, aF5, aF6, aF7, aF8, aF9, aF10, aF11, aF12, aF13, aF14, aF15, aF16, aF17, aF18, aF19, aF20, aF21, aF22, aF23, aF24, aF25, aF26, aF27, aF28, aF29, aF30, aF31, aF32, aF33, aF34, aG8, aG16, aG20, aG22, aG24, aG25, aG26, aG27, aG28, aG29, aG30, aG31, aG33, aG35, aG37, aC0, aC1, aC2, aC3, aC4, aC5, aC6, aC7, aC8, aC9, aC10, aC11, aC12, aC13, aC14, aC15, aC16, aC17, aC18, aC19, aC20, aC21, aC22, aC23, aC24, aC25, aA0_25, aA0_24, aA0_23, aA0_22, aA0_21, aA0_20, aP0_19, aP0_18, aP0_17, aP0_16, aP0_14, aP0_15, aP0_13, aP0_26, aM0_0, aS0_12, aK0, z])
  have e2 : ((ws.map D.str).map W.d).map (fun w => match w with | .d (.str x) => oD (numW x) | _ => .non) = (ws.map numW).map oD := by simp
  rw [e2] at e1
  have e3 := in_non (ws.map numW)
  have q0 : exec pg (lev pg (n + 1)) (.asg (.nm 1) nsL) [some (.d (.lst (ws.map D.str))), none, none] m = .nx [some (.d (.lst (ws.map D.str))), some (.d (.lst ((ws.map numW).map oD))), none] m := by
    rw [exec, e1]
    rfl
  have fb : fn31.body = .cons (.asg (.nm 1) nsL) (.cons (sAt fn31.body 1) .nil) := rfl
  have q1 : exec pg (lev pg (n + 1)) (sAt fn31.body 1) [some (.d (.lst (ws.map D.str))), some (.d (.lst ((ws.map numW).map oD))), none] m = .rt (.d (if (ws.map numW).any Option.isNone then .non else .lst ((ws.map numW).map oD))) m := by
    generalize (ws.map numW).map oD = L at *
    cases hA : (ws.map numW).any Option.isNone <;> rw [hA] at e3 <;> simp [sAt, fn31, execs, exec, evI, seqI, seqD, forL, setT, ev, evs, evO, evC, evAnd, evOr, M.bind, M.ret, M.opt, Out.ofR, startE, tru, truth, isiD, ctOk, tyS, isiT, cmpD, eqE, fnEnd, lev_lo, datOf, bltD, binD, unD, Es.len, M.calm, methF, calF, asB, dund, dunName, isiX, aF0, aF1, aF2, aF3, aF4, aF5, aF6, aF7, aF8, aF9, aF10, aF11, aF12, aF13, aF14, aF15, aF16, aF17, aF18, aF19, aF20, aF21, aF22, aF23, aF24, aF25, aF26, aF27, aF28, aF29, aF30, aF31, aF32, aF33, aF34, aG8, aG16, aG20, aG22, aG24, aG25, aG26, aG27, aG28, aG29, aG30, aG31, aG33, aG35, aG37, aC0, aC1, aC2, aC3, aC4, aC5, aC6, aC7, aC8, aC9, aC10, aC11, aC12, aC13, aC14, aC15, aC16, aC17, aC18, aC19, aC20, aC21, aC22, aC23, aC24, aC25, aA0_25, aA0_24, aA0_23, aA0_22, aA0_21, aA0_20, aP0_19, aP0_18, aP0_17, aP0_16, aP0_14, aP0_15, aP0_13, aP0_26, aM0_0, aS0_12, aK0, e3]
  have qa : execs pg (lev pg (n + 1)) fn31.body [some (.d (.lst (ws.map D.str))), none, none] m = .rt (.d (if (ws.map numW).any Option.isNone then .non else .lst ((ws.map numW).map oD))) m := by
    rw [fb, xs_cons _ _ _ _ _ _ _ _ q0]
    simp only [execs, q1]
  rw [lev_hi]
  unfold runFn
  rw [aF31]
  have s3 : startE fn31.ns [W.d (.lst (ws.map D.str))] = [some (.d (.lst (ws.map D.str))), none, none] := rfl
  simp only [s3, qa]
  simp [fn31, fnEnd]
abbrev wy (d : Bool) : Str := if d then Str.ofString "down" else Str.ofString "up"
abbrev tBd : Ss := fn30.body
theorem tBd_eq : tBd = .cons (sAt tBd 0) (.cons (sAt tBd 1) (.cons (sAt tBd 2) (.cons (sAt tBd 3) (.cons (sAt tBd 4) (.cons (sAt tBd 5) .nil))))) := rfl
theorem eqP_i (x y : Int) : eqP (.int x) (.int y) = some (x == y) := by simp [eqP, eqQ, D.py, shp, PyData.plain, PyData.depth, PyData.eqv]
theorem in_way (d : Bool) : inD (.str (wy d)) (.tup [.str (Str.ofString "up"), .str (Str.ofString "down")]) = some true := by cases d <;> rfl
theorem way_eq (d : Bool) : eqP (.str (wy d)) (.str (Str.ofString "down")) = some d := by cases d <;> rfl
theorem told_yes (n : Nat) (m : Mu) (hm : Wf m) (x w0 w1 w2 w4 : Str) (f s l a : Int) (d bk : Bool) (hw : Txt.split x (Str.ofString " ") = [w0, w1, w2, wy d, w4] ++ (if bk then [Str.ofString "back"] else []))
    (k0 : WdOk w0) (k1 : WdOk w1) (k2 : WdOk w2) (k4 : WdOk w4) (n0 : numW w0 = some f) (n1 : numW w1 = some s) (n2 : numW w2 = some l) (n4 : numW w4 = some a)
    (hf : 0 ≤ f) (hs : 0 ≤ s) (h1 : 1 ≤ l) (h2 : l ≤ 10 ^ 30 - (if s > f then s else f)) : (lev pg (n + 4)).hi 30 [.d (.str x)] m = .ok (.d (tieD f s l a d (bk && decide (1 < l)))) m := by
  have mk := mk_tie n m hm f s l a d bk hf hs h1 h2
  have ns := ns_ok (n + 1) m hm [w0, w1, w2, w4] (fun w hw => by
    simp only [List.mem_cons, List.not_mem_nil, or_false] at hw
    rcases hw with rfl | rfl | rfl | rfl <;> assumption) (by simp)
  simp [n0, n1, n2, n4, oD] at ns
  have sp : ((Str.ofString " ").length != 0 && (Str.ofString " ").cps.all (· < 256)) = true := by decide +kernel
  have bb : eqP (.str (Str.ofString "back")) (.str (Str.ofString "back")) = some true := by rfl
  have i5 : eqP (.int 5) (.int 6) = some false := by rfl
  have i6 : eqP (.int 6) (.int 6) = some true := by rfl
  have i7 : eqP (.int 5) (.int 5) = some true := by rfl
  have iw := in_way d
  have ie := way_eq d
  generalize wy d = Y at *
  rw [lev_hi]
  cases bk
  · simp at hw mk
    simp [runFn, fn30, execs, exec, evI, seqI, seqD, forL, setT, ev, evs, evO, evC, evAnd, evOr, M.bind, M.ret, M.opt, Out.ofR, startE, tru, truth, isiD, ctOk, tyS, isiT, cmpD, eqE, fnEnd, lev_lo, datOf, bltD, binD, unD, Es.len, M.calm, methF, calF, asB, dund, dunName, isiX, aF0, aF1, aF2, aF3, aF4, aF5, aF6, aF7, aF8, aF9, aF10, aF11, aF12, aF13, aF14, aF15, aF16, aF17, aF18, aF19, aF20, aF21, aF22, aF23, aF24, aF25, aF26, aF27, aF28, aF29, aF30, aF31, aF32, aF33, aF34, aG8, aG16, aG20, aG22, aG24, aG25, aG26, aG27, aG28, aG29, aG30, aG31, aG33, aG35, aG37, aC0, aC1, aC2, aC3, aC4, aC5, aC6, aC7, aC8, aC9, aC10, aC11, aC12, aC13, aC14, aC15, aC16, aC17, aC18, aC19, aC20, aC21, aC22, aC23, aC24, aC25, aA0_25, aA0_24, aA0_23, aA0_22, aA0_21, aA0_20, aP0_19, aP0_18, aP0_17, aP0_16, aP0_14, aP0_15, aP0_13, aP0_26, aM0_0, aS0_12, aK0, strOf, smD, sp, hw, seqOf, subD, L2.ixN, i5, i7, iw, ie, evst, slcD, cutL, HT.sIx, optI, strTop, ns, handle, mk]
  · simp at hw mk
    simp [runFn, fn30, execs, exec, evI, seqI, seqD, forL, setT, ev, evs, evO, evC, evAnd, evOr, M.bind, M.ret, M.opt, Out.ofR, startE, tru, truth, isiD, ctOk, tyS, isiT, cmpD, eqE, fnEnd, lev_lo, datOf, bltD, binD, unD, Es.len, M.calm, methF, calF, asB, dund, dunName, isiX, aF0, aF1, aF2, aF3, aF4, aF5, aF6, aF7, aF8, aF9, aF10, aF11, aF12, aF13, aF14, aF15, aF16, aF17, aF18, aF19, aF20, aF21, aF22, aF23, aF24, aF25, aF26, aF27, aF28, aF29, aF30, aF31, aF32, aF33, aF34, aG8, aG16, aG20, aG22, aG24, aG25, aG26, aG27, aG28, aG29, aG30, aG31, aG33, aG35, aG37, aC0, aC1, aC2, aC3, aC4, aC5, aC6, aC7, aC8, aC9, aC10, aC11, aC12, aC13, aC14, aC15, aC16, aC17, aC18, aC19, aC20, aC21, aC22, aC23, aC24, aC25, aA0_25, aA0_24, aA0_23, aA0_22, aA0_21, aA0_20, aP0_19, aP0_18, aP0_17, aP0_16, aP0_14, aP0_15, aP0_13, aP0_26, aM0_0, aS0_12, aK0, strOf, smD, sp, hw, seqOf, subD, L2.ixN, i6, bb, iw, ie, evst, slcD, cutL, HT.sIx, optI, strTop, ns, handle, mk]

/-! ### the text of a tie -/
def txtW (f s l a : Int) (d b : Bool) : List Str := [nTx f, nTx s, nTx l, wy d, nTx a] ++ (if b then [Str.ofString "back"] else [])
def txtD (f s l a : Int) (d b : Bool) : Str := Txt.join (Str.ofString " ") (txtW f s l a d b)
def Lo (i : Int) : Prop := i.natAbs < 10 ^ 100
theorem Lo.sm {i : Int} (h : Lo i) : Sm i = true := by
  refine sm_of (Nat.lt_of_lt_of_le h ?_)
  decide +kernel
theorem txt_join (f s l a : Int) (d b : Bool) (hf : Lo f) (hs : Lo s) (hl : Lo l) (ha : Lo a) : joinB (Str.ofString " ") (txtW f s l a d b) = true := by
  have h1 := nTx_len hf
  have h2 := nTx_len hs
  have h3 := nTx_len hl
  have h4 := nTx_len ha
  have h5 : (wy d).length ≤ 4 := by cases d <;> decide
  have h6 : (Str.ofString " ").length = 1 := by decide
  have h7 : (Str.ofString "back").length = 4 := by decide
  refine decide_eq_true ?_
  cases b <;> simp [txtW, h6, h7, strTop] <;> omega
theorem p_text (n : Nat) (m : Mu) (f s l a : Int) (d b : Bool) (hf : Lo f) (hs : Lo s) (hl : Lo l) (ha : Lo a) : (lev pg (n + 3)).hi 26 [.d (tieD f s l a d b)] m = .ok (.d (.str (txtD f s l a d b))) m := by
  have j := txt_join f s l a d b hf hs hl ha
  have g1 := hf.sm
  have g2 := hs.sm
  have g3 := hl.sm
  have g4 := ha.sm
  rw [lev_hi]
  unfold txtD
  unfold txtW at j ⊢
  cases b <;> cases d <;> simp [wy, nTx] at j ⊢ <;> simp [runFn, fn26, execs, exec, evI, seqI, seqD, forL, setT, ev, evs, evO, evC, evAnd, evOr, M.bind, M.ret, M.opt, Out.ofR, startE, tru, truth, isiD, ctOk, tyS, isiT, cmpD, eqE, fnEnd, lev_lo, datOf, bltD, binD, unD, Es.len, M.calm, methF, calF, asB, dund, dunName, isiX, aF0, aF1, aF2, aF3, aF4, aF5, aF6, aF7, aF8, aF9, aF10, aF11, aF12, aF13, aF14, aF15, aF16, aF17, aF18, aF19, aF20, aF21, aF22, aF23, aF24, aF25, aF26, aF27, aF28, aF29, aF30, aF31, aF32, aF33, aF34, aG8, aG16, aG20, aG22, aG24, aG25, aG26, aG27, aG28, aG29, aG30, aG31, aG33, aG35, aG37, aC0, aC1, aC2, aC3, aC4, aC5, aC6, aC7, aC8, aC9, aC10, aC11, aC12, aC13, aC14, aC15, aC16, aC17, aC18, aC19, aC20, aC21, aC22, aC23, aC24, aC25, aA0_25, aA0_24, aA0_23, aA0_22, aA0_21, aA0_20, aP0_19, aP0_18, aP0_17, aP0_16, aP0_14, aP0_15, aP0_13, aP0_26, aM0_0, aS0_12, aK0, p_first, p_second, p_length, p_amount, p_down, p_backward, g1, g2, g3, g4, strOf, smD, allS, evst, strTop, j]
theorem txt_split (f s l a : Int) (d b : Bool) : Txt.split (txtD f s l a d b) (Str.ofString " ") = txtW f s l a d b := by
  refine TL.split_join (s := 32) (S := []) (by decide) (by decide +kernel) (by simp [txtW]) fun p hp => ?_
  have fr : ∀ i, 32 ∉ TL.tl (nTx i) := fun i => nTx_free (by decide) (.inl (by decide))
  unfold txtW at hp
  have hw : 32 ∉ TL.tl (wy d) := by cases d <;> decide
  have hb : 32 ∉ TL.tl (Str.ofString "back") := by decide
  cases b <;> simp at hp
  · rcases hp with rfl | rfl | rfl | rfl | rfl <;> first | exact fr _ | exact hw
  · rcases hp with rfl | rfl | rfl | rfl | rfl | rfl <;> first | exact fr _ | exact hw | exact hb
theorem wd_num {i : Int} (h : Lo i) : WdOk (nTx i) := by
  have h1 := nTx_len h
  refine ⟨?_, by omega⟩
  have fl : (TL.tl (figs (nTx i))).length ≤ 101 := by
    rw [tl_figs]
    rw [TL.len_tl] at h1
    split
    · simp only [List.length_tail]; omega
    · omega
  refine Bool.and_eq_true_iff.mpr ⟨decide_eq_true (by rw [TL.len_tl]; simp only [strTop]; omega), List.all_eq_true.mpr fun c hc => decide_eq_true ?_⟩
  have hc : c ∈ TL.tl (figs (nTx i)) := hc
  rw [tl_figs] at hc
  have : c < 58 := by
    split at hc
    · exact nTx_cp c (List.mem_of_mem_tail hc)
    · exact nTx_cp c hc
  omega
theorem of_text (n : Nat) (m : Mu) (hm : Wf m) (f s l a : Int) (d b : Bool) (ha : Lo a) (hf : 0 ≤ f) (hs : 0 ≤ s) (h1 : 1 ≤ l) (h2 : l ≤ 10 ^ 30 - (if s > f then s else f)) (hb : b = true → 1 < l) : (lev pg (n + 5)).hi 28 [.d (.str (txtD f s l a d b))] m = .ok (.d (tieD f s l a d b)) m := by
  have p30 : (10 : Int) ^ 30 = 1000000000000000000000000000000 := by decide
  have q100 : (10 : Nat) ^ 100 = 10000000000000000000000000000000000000000000000000000000000000000000000000000000000000000000000000000 := by decide +kernel
  have bn : f ≤ 10 ^ 30 ∧ s ≤ 10 ^ 30 ∧ l ≤ 10 ^ 30 := by
    split at h2 <;> omega
  obtain ⟨b1, b2, b3⟩ := bn
  have lf : Lo f := by unfold Lo; rw [q100]; omega
  have ls : Lo s := by unfold Lo; rw [q100]; omega
  have ll : Lo l := by unfold Lo; rw [q100]; omega
  have t := told_yes n m hm (txtD f s l a d b) (nTx f) (nTx s) (nTx l) (nTx a) f s l a d b (txt_split f s l a d b) (wd_num lf) (wd_num ls) (wd_num ll) (wd_num ha) (numW_nTx lf) (numW_nTx ls) (numW_nTx ll) (numW_nTx ha) hf hs h1 h2
  have e2 : (b && decide (1 < l)) = b := by
    cases b
    · rfl
    · simp [hb rfl]
  rw [e2] at t
  rw [lev_hi]
  simp [runFn, fn28, execs, exec, evI, seqI, seqD, forL, setT, ev, evs, evO, evC, evAnd, evOr, M.bind, M.ret, M.opt, Out.ofR, startE, tru, truth, isiD, ctOk, tyS, isiT, cmpD, eqE, fnEnd, lev_lo, datOf, bltD, binD, unD, Es.len, M.calm, methF, calF, asB, dund, dunName, isiX, aF0, aF1, aF2, aF3, aF4, aF5, aF6, aF7, aF8, aF9, aF10, aF11, aF12, aF13, aF14, aF15, aF16, aF17, aF18, aF19, aF20, aF21, aF22, aF23, aF24, aF25, aF26, aF27, aF28, aF29, aF30, aF31, aF32, aF33, aF34, aG8, aG16, aG20, aG22, aG24, aG25, aG26, aG27, aG28, aG29, aG30, aG31, aG33, aG35, aG37, aC0, aC1, aC2, aC3, aC4, aC5, aC6, aC7, aC8, aC9, aC10, aC11, aC12, aC13, aC14, aC15, aC16, aC17, aC18, aC19, aC20, aC21, aC22, aC23, aC24, aC25, aA0_25, aA0_24, aA0_23, aA0_22, aA0_21, aA0_20, aP0_19, aP0_18, aP0_17, aP0_16, aP0_14, aP0_15, aP0_13, aP0_26, aM0_0, aS0_12, aK0, t]

/-! ### the reading of any words -/
def back1 (k : Bool) : List Str := if k then [Str.ofString "back"] else []
/-- what the words of a text tell -/
inductive Rd : List Str → Option (Int × Int × Int × Int × Bool × Bool) → Prop
  | len {ws : List Str} : ws.length ≠ 5 → ws.length ≠ 6 → Rd ws none
  | last {a b c d e f : Str} : (f == Str.ofString "back") = false → Rd [a, b, c, d, e, f] none
  | way {a b c d e : Str} {k : Bool} : (d == Str.ofString "up") = false → (d == Str.ofString "down") = false → Rd ([a, b, c, d, e] ++ back1 k) none
  | num {a b c e : Str} {d k : Bool} : ([a, b, c, e].map numW).any Option.isNone = true → Rd ([a, b, c, wy d, e] ++ back1 k) none
  | bad {a b c e : Str} {d k : Bool} {f s l t : Int} : numW a = some f → numW b = some s → numW c = some l → numW e = some t → (f < 0 ∨ s < 0 ∨ l < 1 ∨ 10 ^ 30 < (if s > f then s else f) + l) → Rd ([a, b, c, wy d, e] ++ back1 k) none
  | ok {a b c e : Str} {d k : Bool} {f s l t : Int} : numW a = some f → numW b = some s → numW c = some l → numW e = some t → 0 ≤ f → 0 ≤ s → 1 ≤ l → (if s > f then s else f) + l ≤ 10 ^ 30 → Rd ([a, b, c, wy d, e] ++ back1 k) (some (f, s, l, t, d, k && decide (1 < l)))
theorem rd_way (a b c d e : Str) (k : Bool) : ∃ o, Rd ([a, b, c, d, e] ++ back1 k) o := by
  have go : ∀ q : Bool, d = wy q → ∃ o, Rd ([a, b, c, d, e] ++ back1 k) o := fun q hq => by
    subst hq
    by_cases hn : ([a, b, c, e].map numW).any Option.isNone = true
    · exact ⟨_, .num hn⟩
    · simp at hn
      obtain ⟨n0, n1, n2, n3⟩ := hn
      obtain ⟨f, n0⟩ := Option.ne_none_iff_exists'.mp n0
      obtain ⟨s, n1⟩ := Option.ne_none_iff_exists'.mp n1
      obtain ⟨l, n2⟩ := Option.ne_none_iff_exists'.mp n2
      obtain ⟨t, n3⟩ := Option.ne_none_iff_exists'.mp n3
      by_cases hb : f < 0 ∨ s < 0 ∨ l < 1 ∨ 10 ^ 30 < (if s > f then s else f) + l
      · exact ⟨_, .bad n0 n1 n2 n3 hb⟩
      · simp only [not_or, Int.not_lt] at hb
        obtain ⟨b0, b1, b2, b3⟩ := hb
        exact ⟨_, .ok n0 n1 n2 n3 b0 b1 b2 b3⟩
  by_cases h1 : (d == Str.ofString "up") = true
  · exact go false (by simpa [wy] using h1)
  · by_cases h2 : (d == Str.ofString "down") = true
    · exact go true (by simpa [wy] using h2)
    · exact ⟨_, .way (by simpa using h1) (by simpa using h2)⟩
theorem rd_ex (ws : List Str) : ∃ o, Rd ws o := by
  by_cases h5 : ws.length = 5
  · match ws, h5 with
    | [a, b, c, d, e], _ => exact rd_way a b c d e false
  · by_cases h6 : ws.length = 6
    · match ws, h6 with
      | [a, b, c, d, e, f], _ =>
        by_cases hf : (f == Str.ofString "back") = true
        · have hf : f = Str.ofString "back" := by simpa using hf
          subst hf
          exact rd_way a b c d e true
        · exact ⟨_, .last (by simpa using hf)⟩
    · exact ⟨_, .len h5 h6⟩
def oTie : Option (Int × Int × Int × Int × Bool × Bool) → D
  | some (f, s, l, a, d, b) => tieD f s l a d b
  | none => .non
def oRow : Option (Int × Int × Int × Int × Bool × Bool) → D
  | some (f, s, l, a, d, b) => rowD f s l a d b
  | none => .non
theorem in2 (d u w : Str) : inD (.str d) (.tup [.str u, .str w]) = some (u == d || w == d) := by
  simp [inD, inQ, D.py, D.pys, shp, PyData.plain, PyData.depth, PyData.plainAll, PyData.depthAll, PyData.eqv]
theorem flip_eq {x y : Str} (h : (x == y) = false) : (y == x) = false := by
  cases e : (y == x) with
  | false => rfl
  | true =>
    have e : y = x := by simpa using e
    subst e
    simp at h
section
variable (n : Nat) (m : Mu) (hm : Wf m)
include hm
/-- the program's reading -/
theorem told_any (x : Str) (ws : List Str) (hw : Txt.split x (Str.ofString " ") = ws) (hk : ∀ w ∈ ws, WdOk w) (o : Option (Int × Int × Int × Int × Bool × Bool)) (h : Rd ws o) : (lev pg (n + 4)).hi 30 [.d (.str x)] m = .ok (.d (oTie o)) m := by
  have sp : ((Str.ofString " ").length != 0 && (Str.ofString " ").cps.all (· < 256)) = true := by decide +kernel
  have i5 : eqP (.int 5) (.int 6) = some false := by rfl
  have i6 : eqP (.int 6) (.int 6) = some true := by rfl
  have i7 : eqP (.int 5) (.int 5) = some true := by rfl
  have i8 : eqP (.int 6) (.int 5) = some false := by rfl
  have bb : eqP (.str (Str.ofString "back")) (.str (Str.ofString "back")) = some true := by rfl
  cases h with
  | len h5 h6 =>
    have j5 : eqP (.int (ws.length : Int)) (.int 5) = some false := by rw [eqP_i]; simp; omega
    have j6 : eqP (.int (ws.length : Int)) (.int 6) = some false := by rw [eqP_i]; simp; omega
    rw [lev_hi]
    simp [runFn, fn30, execs, exec, evI, seqI, seqD, forL, setT, ev, evs, evO, evC, evAnd, evOr, M.bind, M.ret, M.opt, Out.ofR, startE, tru, truth, isiD, ctOk, tyS, isiT, cmpD, eqE, fnEnd, lev_lo, datOf, bltD, binD, unD, Es.len, M.calm, methF, calF, asB, dund, dunName, isiX, aF0, aF1, aF2, aF3, aF4, aF5, aF6, aF7, aF8, aF9, aF10, aF11, aF12, aF13, aF14, aF15, aF16, aF17, aF18, aF19, aF20, aF21, aF22, aF23, aF24, aF25, aF26, aF27, aF28, aF29, aF30, aF31, aF32, aF33, aF34, aG8, aG16, aG20, aG22, aG24, aG25, aG26, aG27, aG28, aG29, aG30, aG31, aG33, aG35, aG37, aC0, aC1, aC2, aC3, aC4, aC5, aC6, aC7, aC8, aC9, aC10, aC11, aC12, aC13, aC14, aC15, aC16, aC17, aC18, aC19, aC20, aC21, aC22, aC23, aC24, aC25, aA0_25, aA0_24, aA0_23, aA0_22, aA0_21, aA0_20, aP0_19, aP0_18, aP0_17, aP0_16, aP0_14, aP0_15, aP0_13, aP0_26, aM0_0, aS0_12, aK0, strOf, smD, sp, hw, seqOf, j5, j6, oTie]
  | @last a b c d e f hf =>
    have e1 : eqP (.str f) (.str (Str.ofString "back")) = some false := by rw [eqP_str, hf]
    rw [lev_hi]
    simp [runFn, fn30, execs, exec, evI, seqI, seqD, forL, setT, ev, evs, evO, evC, evAnd, evOr, M.bind, M.ret, M.opt, Out.ofR, startE, tru, truth, isiD, ctOk, tyS, isiT, cmpD, eqE, fnEnd, lev_lo, datOf, bltD, binD, unD, Es.len, M.calm, methF, calF, asB, dund, dunName, isiX, aF0, aF1, aF2, aF3, aF4, aF5, aF6, aF7, aF8, aF9, aF10, aF11, aF12, aF13, aF14, aF15, aF16, aF17, aF18, aF19, aF20, aF21, aF22, aF23, aF24, aF25, aF26, aF27, aF28, aF29, aF30, aF31, aF32, aF33, aF34, aG8, aG16, aG20, aG22, aG24, aG25, aG26, aG27, aG28, aG29, aG30, aG31, aG33, aG35, aG37, aC0, aC1, aC2, aC3, aC4, aC5, aC6, aC7, aC8, aC9, aC10, aC11, aC12, aC13, aC14, aC15, aC16, aC17, aC18, aC19, aC20, aC21, aC22, aC23, aC24, aC25, aA0_25, aA0_24, aA0_23, aA0_22, aA0_21, aA0_20, aP0_19, aP0_18, aP0_17, aP0_16, aP0_14, aP0_15, aP0_13, aP0_26, aM0_0, aS0_12, aK0, strOf, smD, sp, hw, seqOf, subD, L2.ixN, i6, i8, e1, oTie]
  | @way a b c d e k h1 h2 =>
    have e1 := in2 d (Str.ofString "up") (Str.ofString "down")
    rw [flip_eq h1, flip_eq h2] at e1
    rw [lev_hi]
    cases k <;> simp [back1] at hw <;> simp [runFn, fn30, execs, exec, evI, seqI, seqD, forL, setT, ev, evs, evO, evC, evAnd, evOr, M.bind, M.ret, M.opt, Out.ofR, startE, tru, truth, isiD, ctOk, tyS, isiT, cmpD, eqE, fnEnd, lev_lo, datOf, bltD, binD, unD, Es.len, M.calm, methF, calF, asB, dund, dunName, isiX, aF0, aF1, aF2, aF3, aF4, aF5, aF6, aF7, aF8, aF9, aF10, aF11, aF12, aF13, aF14, aF15, aF16, aF17, aF18, aF19, aF20, aF21, aF22, aF23, aF24, aF25, aF26, aF27, aF28, aF29, aF30, aF31, aF32, aF33, aF34, aG8, aG16, aG20, aG22, aG24, aG25, aG26, aG27, aG28, aG29, aG30, aG31, aG33, aG35, aG37, aC0, aC1, aC2, aC3, aC4, aC5, aC6, aC7, aC8, aC9, aC10, aC11, aC12, aC13, aC14, aC15, aC16, aC17, aC18, aC19, aC20, aC21, aC22, aC23, aC24, aC25, aA0_25, aA0_24, aA0_23, aA0_22, aA0_21, aA0_20, aP0_19, aP0_18, aP0_17, aP0_16, aP0_14, aP0_15, aP0_13, aP0_26, aM0_0, aS0_12, aK0, strOf, smD, sp, hw, seqOf, subD, L2.ixN, i5, i6, i7, bb, e1, oTie]
  | @num a b c e d k hn =>
    have ns := ns_ok (n + 1) m hm [a, b, c, e] (fun w hw => hk w (by
      simp only [List.mem_cons, List.not_mem_nil, or_false] at hw
      rcases hw with rfl | rfl | rfl | rfl <;> simp)) (by simp)
    rw [if_pos hn] at ns
    simp at ns
    have iw := in_way d
    generalize wy d = Y at *
    rw [lev_hi]
    cases k <;> simp [back1] at hw <;> simp [runFn, fn30, execs, exec, evI, seqI, seqD, forL, setT, ev, evs, evO, evC, evAnd, evOr, M.bind, M.ret, M.opt, Out.ofR, startE, tru, truth, isiD, ctOk, tyS, isiT, cmpD, eqE, fnEnd, lev_lo, datOf, bltD, binD, unD, Es.len, M.calm, methF, calF, asB, dund, dunName, isiX, aF0, aF1, aF2, aF3, aF4, aF5, aF6, aF7, aF8, aF9, aF10, aF11, aF12, aF13, aF14, aF15, aF16, aF17, aF18, aF19, aF20, aF21, aF22, aF23, aF24, aF25, aF26, aF27, aF28, aF29, aF30, aF31, aF32, aF33, aF34, aG8, aG16, aG20, aG22, aG24, aG25, aG26, aG27, aG28, aG29, aG30, aG31, aG33, aG35, aG37, aC0, aC1, aC2, aC3, aC4, aC5, aC6, aC7, aC8, aC9, aC10, aC11, aC12, aC13, aC14, aC15, aC16, aC17, aC18, aC19, aC20, aC21, aC22, aC23, aC24, aC25, aA0_25, aA0_24, aA0_23, aA0_22, aA0_21, aA0_20, aP0_19, aP0_18, aP0_17, aP0_16, aP0_14, aP0_15, aP0_13, aP0_26, aM0_0, aS0_12, aK0, strOf, smD, sp, hw, seqOf, subD, L2.ixN, i5, i6, i7, bb, iw, evst, slcD, cutL, HT.sIx, optI, strTop, ns, oTie]
  | @bad a b c e d k f s l t n0 n1 n2 n3 hb =>
    have ns := ns_ok (n + 1) m hm [a, b, c, e] (fun w hw => hk w (by
      simp only [List.mem_cons, List.not_mem_nil, or_false] at hw
      rcases hw with rfl | rfl | rfl | rfl <;> simp)) (by simp)
    simp [n0, n1, n2, n3, oD] at ns
    have iw := in_way d
    have ie := way_eq d
    have mk : ∃ c v, c < pg.nx ∧ mkObj pg (lev pg (n + 3)) 0 [.d (.int f), .d (.int s), .d (.int l), .d (.int t), .d (.bl d), .d (.bl k)] m = .exc c v m := by
      by_cases hf : f < 0
      · exact ⟨_, _, by rw [nx_eq]; decide, mk_exc n m hm _ _ _ _ _ _ _ _ (init_p0 n m hm _ _ _ _ _ _ (.inr ⟨f, rfl, hf⟩))⟩
      · by_cases hs : s < 0
        · exact ⟨_, _, by rw [nx_eq]; decide, mk_exc n m hm _ _ _ _ _ _ _ _ (init_p1 n m hm _ _ _ _ _ f (by omega) (.inr ⟨s, rfl, hs⟩))⟩
        · exact ⟨_, _, by rw [nx_eq]; decide, mk_exc n m hm _ _ _ _ _ _ _ _ (init_l n m hm _ _ _ _ f s (by omega) (by omega) (.inr ⟨l, rfl, by omega⟩))⟩
    obtain ⟨c', v', hc, mk⟩ := mk
    generalize wy d = Y at *
    rw [nx_eq] at hc
    rw [lev_hi]
    cases k <;> simp [back1] at hw <;> simp [runFn, fn30, execs, exec, evI, seqI, seqD, forL, setT, ev, evs, evO, evC, evAnd, evOr, M.bind, M.ret, M.opt, Out.ofR, startE, tru, truth, isiD, ctOk, tyS, isiT, cmpD, eqE, fnEnd, lev_lo, datOf, bltD, binD, unD, Es.len, M.calm, methF, calF, asB, dund, dunName, isiX, aF0, aF1, aF2, aF3, aF4, aF5, aF6, aF7, aF8, aF9, aF10, aF11, aF12, aF13, aF14, aF15, aF16, aF17, aF18, aF19, aF20, aF21, aF22, aF23, aF24, aF25, aF26, aF27, aF28, aF29, aF30, aF31, aF32, aF33, aF34, aG8, aG16, aG20, aG22, aG24, aG25, aG26, aG27, aG28, aG29, aG30, aG31, aG33, aG35, aG37, aC0, aC1, aC2, aC3, aC4, aC5, aC6, aC7, aC8, aC9, aC10, aC11, aC12, aC13, aC14, aC15, aC16, aC17, aC18, aC19, aC20, aC21, aC22, aC23, aC24, aC25, aA0_25, aA0_24, aA0_23, aA0_22, aA0_21, aA0_20, aP0_19, aP0_18, aP0_17, aP0_16, aP0_14, aP0_15, aP0_13, aP0_26, aM0_0, aS0_12, aK0, strOf, smD, sp, hw, seqOf, subD, L2.ixN, i5, i6, i7, bb, iw, ie, evst, slcD, cutL, HT.sIx, optI, strTop, ns, handle, Pg.exAt, Pg.exSub, mk, nx_eq, hc, oTie]
  | @ok a b c e d k f s l t n0 n1 n2 n3 b0 b1 b2 b3 =>
    exact told_yes n m hm x a b c e f s l t d k hw (hk a (by simp)) (hk b (by simp)) (hk c (by simp)) (hk e (by simp)) n0 n1 n2 n3 b0 b1 b2 (by omega)
end
/-- what is no text -/
def notS : D → Bool
  | .non => true
  | .bl _ => true
  | .int _ => true
  | .tup _ => true
  | .lst _ => true
  | .dic _ => true
  | _ => false
theorem told_not (n : Nat) (m : Mu) (x : D) (h : notS x = true) : (lev pg (n + 4)).hi 30 [.d x] m = .ok (.d .non) m := by
  have j5 : eqP (.int 0) (.int 5) = some false := by rfl
  have j6 : eqP (.int 0) (.int 6) = some false := by rfl
  rw [lev_hi]
  cases x <;> first | (cases h; done) | simp [runFn, fn30, execs, exec, evI, seqI, seqD, forL, setT, ev, evs, evO, evC, evAnd, evOr, M.bind, M.ret, M.opt, Out.ofR, startE, tru, truth, isiD, ctOk, tyS, isiT, cmpD, eqE, fnEnd, lev_lo, datOf, bltD, binD, unD, Es.len, M.calm, methF, calF, asB, dund, dunName, isiX, aF0, aF1, aF2, aF3, aF4, aF5, aF6, aF7, aF8, aF9, aF10, aF11, aF12, aF13, aF14, aF15, aF16, aF17, aF18, aF19, aF20, aF21, aF22, aF23, aF24, aF25, aF26, aF27, aF28, aF29, aF30, aF31, aF32, aF33, aF34, aG8, aG16, aG20, aG22, aG24, aG25, aG26, aG27, aG28, aG29, aG30, aG31, aG33, aG35, aG37, aC0, aC1, aC2, aC3, aC4, aC5, aC6, aC7, aC8, aC9, aC10, aC11, aC12, aC13, aC14, aC15, aC16, aC17, aC18, aC19, aC20, aC21, aC22, aC23, aC24, aC25, aA0_25, aA0_24, aA0_23, aA0_22, aA0_21, aA0_20, aP0_19, aP0_18, aP0_17, aP0_16, aP0_14, aP0_15, aP0_13, aP0_26, aM0_0, aS0_12, aK0, isiD, ctOk, tyS, isiT, seqOf, j5, j6]

/-! ### texts cut -/
theorem tl_cut0 (w : Str) (i : Nat) : TL.tl (L2.cutS w none (some (i : Int))) = (TL.tl w).take i := by
  show ((TL.tl w).drop 0).take (HT.sIx w.length w.length (some (i : Int)) - 0) = _
  rw [HT.sIx_nat, List.drop_zero, Nat.sub_zero, TL.len_tl]
  by_cases h : i ≤ (TL.tl w).length
  · rw [Nat.min_eq_left h]
  · rw [Nat.min_eq_right (by omega), List.take_of_length_le (Nat.le_refl _), List.take_of_length_le (by omega)]
theorem tl_cut1 (w : Str) (i : Nat) : TL.tl (L2.cutS w (some (i : Int)) none) = (TL.tl w).drop i := by
  show ((TL.tl w).drop (HT.sIx w.length 0 (some (i : Int)))).take (w.length - HT.sIx w.length 0 (some (i : Int))) = _
  rw [HT.sIx_nat, TL.len_tl]
  by_cases h : i ≤ (TL.tl w).length
  · rw [Nat.min_eq_left h]
    exact List.take_of_length_le (by simp)
  · rw [Nat.min_eq_right (by omega), List.drop_of_length_le (Nat.le_refl _), List.drop_of_length_le (by omega)]
    simp
/-! ### the law's reading of a word -/
abbrev fgE : E := .blt .all (.cons (.lc (.cmp .In (.var 2) (.cst (.str (Str.ofString "0123456789")))) (.nm 2) (.seq (.var 1)) .no [2]) .nil)
abbrev fgA : E := .cmp .Eq (.var 1) (.cst (.str (Str.ofString "")))
abbrev fgC : E := .and (.cons (.cmp .Eq (.sub (.var 1) (.cst (.int 0))) (.cst (.str (Str.ofString "0")))) (.cons (.cmp .NotEq (.var 0) (.cst (.str (Str.ofString "0")))) .nil))
abbrev gBd : Ss := fn18.body
theorem gBd_eq : gBd = .cons (sAt gBd 0) (.cons (.ite (.or (.cons fgA (.cons (.not fgE) (.cons fgC .nil)))) (.cons (.ret (.cst .non)) .nil) .nil) (.cons (sAt gBd 2) .nil)) := rfl
theorem ev_or3 (P : Pg) (C : Tn.Call) (A B D : E) (e : Env) (m : Mu) : ev P C (.or (.cons A (.cons B (.cons D .nil)))) e m = ((ev P C A e).bind fun x => (tru x).bind fun k => match k with | true => M.ret x | false => ev P C (.or (.cons B (.cons D .nil))) e) m := rfl
theorem fig_ok (n : Nat) (m : Mu) (hm : Wf m) (w : Str) (hs : sOkB (figs w) = true) (hl : w.length ≤ 640) : (lev pg (n + 1)).hi 18 [.d (.str w)] m = .ok (.d (oD (numW w))) m := by
  have q0 : exec pg (lev pg n) (sAt gBd 0) [some (.d (.str w)), none, none] m = .nx [some (.d (.str w)), some (.d (.str (figs w))), none] m := by
    have e1 := eqP_str (L2.cutS w none (some 1)) (Str.ofString "-")
    rw [str_ext, show TL.tl (L2.cutS w none (some 1)) = (TL.tl w).take 1 from tl_cut0 w 1, show TL.tl (Str.ofString "-") = [45] by decide] at e1
    by_cases h : (TL.tl w).head? = some 45
    · have h2 : (TL.tl w).take 1 = [45] := by
        cases q : TL.tl w with
        | nil => rw [q] at h; cases h
        | cons c r => rw [q] at h; simp at h; simp [h]
      rw [h2] at e1
      simp at e1
      have h3 : L2.cutS w (some 1) none = figs w := TL.ext_tl (by
        rw [show TL.tl (L2.cutS w (some 1) none) = (TL.tl w).drop 1 from tl_cut1 w 1, tl_figs, if_pos h, List.drop_one])
      simp [sAt, gBd, fn18, execs, exec, evI, seqI, seqD, forL, setT, ev, evs, evO, evC, evAnd, evOr, M.bind, M.ret, M.opt, Out.ofR, startE, tru, truth, isiD, ctOk, tyS, isiT, cmpD, eqE, fnEnd, lev_lo, datOf, bltD, binD, unD, Es.len, M.calm, methF, calF, asB, dund, dunName, isiX, aF0, aF1, aF2, aF3, aF4, aF5, aF6, aF7, aF8, aF9, aF10, aF11, aF12, aF13, aF14, aF15, aF16, aF17, aF18, aF19, aF20, aF21, aF22, aF23, aF24, aF25, aF26, aF27, aF28, aF29, aF30, aF31, aF32, aF33, aF34, aG8, aG16, aG20, aG22, aG24, aG25, aG26, aG27, aG28, aG29, aG30, aG31, aG33, aG35, aG37, aC0, aC1, aC2, aC3, aC4, aC5, aC6, aC7, aC8, aC9, aC10, aC11, aC12, aC13, aC14, aC15, aC16, aC17, aC18, aC19, aC20, aC21, aC22, aC23, aC24, aC25, aA0_25, aA0_24, aA0_23, aA0_22, aA0_21, aA0_20, aP0_19, aP0_18, aP0_17, aP0_16, aP0_14, aP0_15, aP0_13, aP0_26, aM0_0, aS0_12, aK0, slcD, optI, e1, h3]
    · have h2 : (TL.tl w).take 1 ≠ [45] := fun z => h (by
        cases q : TL.tl w with
        | nil => rw [q] at z; cases z
        | cons c r => rw [q] at z; simp at z; simp [z])
      rw [decide_eq_false h2] at e1
      have h3 : w = figs w := TL.ext_tl (by rw [tl_figs, if_neg h])
      simp [sAt, gBd, fn18, execs, exec, evI, seqI, seqD, forL, setT, ev, evs, evO, evC, evAnd, evOr, M.bind, M.ret, M.opt, Out.ofR, startE, tru, truth, isiD, ctOk, tyS, isiT, cmpD, eqE, fnEnd, lev_lo, datOf, bltD, binD, unD, Es.len, M.calm, methF, calF, asB, dund, dunName, isiX, aF0, aF1, aF2, aF3, aF4, aF5, aF6, aF7, aF8, aF9, aF10, aF11, aF12, aF13, aF14, aF15, aF16, aF17, aF18, aF19, aF20, aF21, aF22, aF23, aF24, aF25, aF26, aF27, aF28, aF29, aF30, aF31, aF32, aF33, aF34, aG8, aG16, aG20, aG22, aG24, aG25, aG26, aG27, aG28, aG29, aG30, aG31, aG33, aG35, aG37, aC0, aC1, aC2, aC3, aC4, aC5, aC6, aC7, aC8, aC9, aC10, aC11, aC12, aC13, aC14, aC15, aC16, aC17, aC18, aC19, aC20, aC21, aC22, aC23, aC24, aC25, aA0_25, aA0_24, aA0_23, aA0_22, aA0_21, aA0_20, aP0_19, aP0_18, aP0_17, aP0_16, aP0_14, aP0_15, aP0_13, aP0_26, aM0_0, aS0_12, aK0, slcD, optI, e1, ← h3]
  have fl : (TL.tl (figs w)).length ≤ 640 := by
    have h1 := TL.len_tl w
    rw [tl_figs]
    split
    · simp only [List.length_tail]; omega
    · omega
  have e1 : ev pg (lev pg n) fgE [some (.d (.str w)), some (.d (.str (figs w))), none] m = .ok (.d (.bl ((TL.tl (figs w)).all isFig))) m := by
    have z := all_lcB (P := pg) (C := lev pg n) (el := .cmp .In (.var 2) (.cst (.str (Str.ofString "0123456789")))) (t := .nm 2) (i := .seq (.var 1)) (own := [2]) (e := [some (.d (.str w)), some (.d (.str (figs w))), none]) (m := m) (m' := m) (ws := (TL.tl (figs w)).map fun c => .d (.str ⟨#[c]⟩)) (fun x => match x with | .d (.str x) => x.cps.toList.all isFig | _ => false) hm (by simp [execs, exec, evI, seqI, seqD, forL, setT, ev, evs, evO, evC, evAnd, evOr, M.bind, M.ret, M.opt, Out.ofR, startE, tru, truth, isiD, ctOk, tyS, isiT, cmpD, eqE, fnEnd, lev_lo, datOf, bltD, binD, unD, Es.len, M.calm, methF, calF, asB, dund, dunName, isiX, aF0, aF1, aF2, aF3, aF4, aF5, aF6, aF7, aF8, aF9, aF10, aF11, aF12, aF13, aF14, aF15, aF16, aF17, aF18, aF19, aF20, aF21, aF22, aF23, aF24, aF25, aF26, aF27, aF28, aF29, aF30, aF31, aF32, aF33, aF34, aG8, aG16, aG20, aG22, aG24, aG25, aG26, aG27, aG28, aG29, aG30, aG31, aG33, aG35, aG37, aC0, aC1, aC2, aC3, aC4, aC5, aC6, aC7, aC8, aC9, aC10, aC11, aC12, aC13, aC14, aC15, aC16, aC17, aC18, aC19, aC20, aC21, aC22, aC23, aC24, aC25, aA0_25, aA0_24, aA0_23, aA0_22, aA0_21, aA0_20, aP0_19, aP0_18, aP0_17, aP0_16, aP0_14, aP0_15, aP0_13, aP0_26, aM0_0, aS0_12, aK0]) (by simp; exact Nat.le_trans (by simpa using fl) (by decide)) (fun x hx acc => by
      obtain ⟨c, _, rfl⟩ := List.mem_map.mp hx
      simp [lcF, wipeE, datM, execs, exec, evI, seqI, seqD, forL, setT, ev, evs, evO, evC, evAnd, evOr, M.bind, M.ret, M.opt, Out.ofR, startE, tru, truth, isiD, ctOk, tyS, isiT, cmpD, eqE, fnEnd, lev_lo, datOf, bltD, binD, unD, Es.len, M.calm, methF, calF, asB, dund, dunName, isiX, aF0, aF1, aF2, aF3, aF4, aF5, aF6, aF7, aF8, aF9, aF10, aF11, aF12, aF13, aF14, aF15, aF16, aF17, aF18, aF19, aF20, aF21, aF22, aF23, aF24, aF25, aF26, aF27, aF28, aF29, aF30, aF31, aF32, aF33, aF34, aG8, aG16, aG20, aG22, aG24, aG25, aG26, aG27, aG28, aG29, aG30, aG31, aG33, aG35, aG37, aC0, aC1, aC2, aC3, aC4, aC5, aC6, aC7, aC8, aC9, aC10, aC11, aC12, aC13, aC14, aC15, aC16, aC17, aC18, aC19, aC20, aC21, aC22, aC23, aC24, aC25, aA0_25, aA0_24, aA0_23, aA0_22, aA0_21, aA0_20, aP0_19, aP0_18, aP0_17, aP0_16, aP0_14, aP0_15, aP0_13, aP0_26, aM0_0, aS0_12, aK0, inD, isFig])
    rw [z]
    congr 3
    rw [List.all_map]
    congr 1
    funext c
    simp
  have a1 : ev pg (lev pg n) fgA [some (.d (.str w)), some (.d (.str (figs w))), none] m = .ok (.d (.bl (figs w == Str.ofString ""))) m := by
    have := eqP_str (figs w) (Str.ofString "")
    simp [execs, exec, evI, seqI, seqD, forL, setT, ev, evs, evO, evC, evAnd, evOr, M.bind, M.ret, M.opt, Out.ofR, startE, tru, truth, isiD, ctOk, tyS, isiT, cmpD, eqE, fnEnd, lev_lo, datOf, bltD, binD, unD, Es.len, M.calm, methF, calF, asB, dund, dunName, isiX, aF0, aF1, aF2, aF3, aF4, aF5, aF6, aF7, aF8, aF9, aF10, aF11, aF12, aF13, aF14, aF15, aF16, aF17, aF18, aF19, aF20, aF21, aF22, aF23, aF24, aF25, aF26, aF27, aF28, aF29, aF30, aF31, aF32, aF33, aF34, aG8, aG16, aG20, aG22, aG24, aG25, aG26, aG27, aG28, aG29, aG30, aG31, aG33, aG35, aG37, aC0, aC1, aC2, aC3, aC4, aC5, aC6, aC7, aC8, aC9, aC10, aC11, aC12, aC13, aC14, aC15, aC16, aC17, aC18, aC19, aC20, aC21, aC22, aC23, aC24, aC25, aA0_25, aA0_24, aA0_23, aA0_22, aA0_21, aA0_20, aP0_19, aP0_18, aP0_17, aP0_16, aP0_14, aP0_15, aP0_13, aP0_26, aM0_0, aS0_12, aK0, this]
  have a2 : ev pg (lev pg n) (.not fgE) [some (.d (.str w)), some (.d (.str (figs w))), none] m = .ok (.d (.bl (!(TL.tl (figs w)).all isFig))) m := by
    rw [ev_not, bind_ok e1]
    rfl
  have fin : ∀ r, execs pg (lev pg n) gBd [some (.d (.str w)), none, none] m = .rt (.d r) m → (lev pg (n + 1)).hi 18 [.d (.str w)] m = .ok (.d r) m := fun r h => by
    rw [lev_hi]
    unfold runFn
    rw [aF18]
    have s3 : startE fn18.ns [W.d (.str w)] = [some (.d (.str w)), none, none] := rfl
    simp only [s3]
    show (if 1 = fn18.np then (match execs pg (lev pg n) gBd _ m with | .nx _ m1 => _ | .rt w m1 => _ | .ex c x _ m1 => _ | _ => _) else _) = _
    rw [h]
    simp [fn18, fnEnd]
  refine fin _ ?_
  rw [gBd_eq, xs_cons _ _ _ _ _ _ _ _ q0]
  unfold numW
  cases hA : ((figs w == Str.ofString "") || !(TL.tl (figs w)).all isFig) with
  | true =>
    have a3 : ev pg (lev pg n) (.or (.cons fgA (.cons (.not fgE) (.cons fgC .nil)))) [some (.d (.str w)), some (.d (.str (figs w))), none] m = .ok (.d (.bl true)) m := by
      rw [ev_or3, bind_ok a1]
      cases hB : (figs w == Str.ofString "")
      · rw [hB] at hA
        show ev pg (lev pg n) (.or (.cons (.not fgE) (.cons fgC .nil))) _ m = _
        rw [ev_or2, bind_ok a2]
        rw [Bool.false_or] at hA
        rw [hA]
        rfl
      · rfl
    simp only [execs, exec, a3]
    rfl
  | false =>
    obtain ⟨b1, b2⟩ := Bool.or_eq_false_iff.mp hA
    have b2' := b2
    have b2 : (TL.tl (figs w)).all isFig = true := by simpa using b2
    have ne : TL.tl (figs w) ≠ [] := fun z => by
      rw [str_ext, z] at b1
      simp [show TL.tl (Str.ofString "") = [] by decide] at b1
    obtain ⟨c, r, hcr⟩ : ∃ c r, (figs w).cps.toList = c :: r := by
      cases q : TL.tl (figs w) with
      | nil => exact absurd q ne
      | cons c r => exact ⟨c, r, q⟩
    have hcr' : TL.tl (figs w) = c :: r := hcr
    have c0 : ((⟨#[c]⟩ : Str) == Str.ofString "0") = (some c == some 48) := by
      rw [str_ext, show TL.tl (Str.ofString "0") = [48] by decide, show TL.tl (⟨#[c]⟩ : Str) = [c] from rfl, Bool.eq_iff_iff]
      simp
    have ix : L2.ixN (c :: r).length 0 = some 0 := by
      unfold L2.ixN
      rw [if_pos (by decide), if_pos (by simp)]
      rfl
    have e2 : eqP (.str ⟨#[c]⟩) (.str (Str.ofString "0")) = some (some c == some 48) := by rw [eqP_str, c0]
    have e3 := eqP_str w (Str.ofString "0")
    have a4 : ev pg (lev pg n) fgC [some (.d (.str w)), some (.d (.str (figs w))), none] m = .ok (.d (.bl ((TL.tl (figs w)).head? == some 48 && w != Str.ofString "0"))) m := by
      rw [hcr']
      have sb : ∀ m', subD (.d (.str (figs w))) (.d (.int 0)) m' = some (.d (.str ⟨#[c]⟩)) := fun m' => by
        unfold subD
        simp only [hcr, ix]
        rfl
      cases k1 : (some c == some 48) <;> cases k2 : (w == Str.ofString "0") <;> rw [k1] at e2 <;> rw [k2] at e3 <;> simp [execs, exec, evI, seqI, seqD, forL, setT, ev, evs, evO, evC, evAnd, evOr, M.bind, M.ret, M.opt, Out.ofR, startE, tru, truth, isiD, ctOk, tyS, isiT, cmpD, eqE, fnEnd, lev_lo, datOf, bltD, binD, unD, Es.len, M.calm, methF, calF, asB, dund, dunName, isiX, aF0, aF1, aF2, aF3, aF4, aF5, aF6, aF7, aF8, aF9, aF10, aF11, aF12, aF13, aF14, aF15, aF16, aF17, aF18, aF19, aF20, aF21, aF22, aF23, aF24, aF25, aF26, aF27, aF28, aF29, aF30, aF31, aF32, aF33, aF34, aG8, aG16, aG20, aG22, aG24, aG25, aG26, aG27, aG28, aG29, aG30, aG31, aG33, aG35, aG37, aC0, aC1, aC2, aC3, aC4, aC5, aC6, aC7, aC8, aC9, aC10, aC11, aC12, aC13, aC14, aC15, aC16, aC17, aC18, aC19, aC20, aC21, aC22, aC23, aC24, aC25, aA0_25, aA0_24, aA0_23, aA0_22, aA0_21, aA0_20, aP0_19, aP0_18, aP0_17, aP0_16, aP0_14, aP0_15, aP0_13, aP0_26, aM0_0, aS0_12, aK0, sb, e2, e3, k1, k2, bne]
    have a3 : ev pg (lev pg n) (.or (.cons fgA (.cons (.not fgE) (.cons fgC .nil)))) [some (.d (.str w)), some (.d (.str (figs w))), none] m = .ok (.d (.bl ((TL.tl (figs w)).head? == some 48 && w != Str.ofString "0"))) m := by
      rw [ev_or3, bind_ok a1, b1]
      show ev pg (lev pg n) (.or (.cons (.not fgE) (.cons fgC .nil))) _ m = _
      rw [ev_or2, bind_ok a2, b2']
      exact a4
    cases hB : ((TL.tl (figs w)).head? == some 48 && w != Str.ofString "0") with
    | true =>
      rw [hB] at a3
      simp only [execs, exec, a3]
      rfl
    | false =>
      rw [hB] at a3
      have q1 : exec pg (lev pg n) (.ite (.or (.cons fgA (.cons (.not fgE) (.cons fgC .nil)))) (.cons (.ret (.cst .non)) .nil) .nil) [some (.d (.str w)), some (.d (.str (figs w))), none] m = .nx [some (.d (.str w)), some (.d (.str (figs w))), none] m := by
        rw [exec, a3]
        simp [execs, exec, evI, seqI, seqD, forL, setT, ev, evs, evO, evC, evAnd, evOr, M.bind, M.ret, M.opt, Out.ofR, startE, tru, truth, isiD, ctOk, tyS, isiT, cmpD, eqE, fnEnd, lev_lo, datOf, bltD, binD, unD, Es.len, M.calm, methF, calF, asB, dund, dunName, isiX, aF0, aF1, aF2, aF3, aF4, aF5, aF6, aF7, aF8, aF9, aF10, aF11, aF12, aF13, aF14, aF15, aF16, aF17, aF18, aF19, aF20, aF21, aF22, aF23, aF24, aF25, aF26, aF27, aF28, aF29, aF30, aF31, aF32, aF33, aF34, aG8, aG16, aG20, aG22, aG24, aG25, aG26, aG27, aG28, aG29, aG30, aG31, aG33, aG35, aG37, aC0, aC1, aC2, aC3, aC4, aC5, aC6, aC7, aC8, aC9, aC10, aC11, aC12, aC13, aC14, aC15, aC16, aC17, aC18, aC19, aC20, aC21, aC22, aC23, aC24, aC25, aA0_25, aA0_24, aA0_23, aA0_22, aA0_21, aA0_20, aP0_19, aP0_18, aP0_17, aP0_16, aP0_14, aP0_15, aP0_13, aP0_26, aM0_0, aS0_12, aK0]
      rw [xs_cons _ _ _ _ _ _ _ _ q1]
      have hv := fig_text (w := w) (by omega) ne (all_fig b2)
      have q3 : exec pg (lev pg n) (sAt gBd 2) [some (.d (.str w)), some (.d (.str (figs w))), none] m = .rt (.d (oD (intText? w))) m := by
        rw [hv]
        simp [sAt, gBd, fn18, execs, exec, evI, seqI, seqD, forL, setT, ev, evs, evO, evC, evAnd, evOr, M.bind, M.ret, M.opt, Out.ofR, startE, tru, truth, isiD, ctOk, tyS, isiT, cmpD, eqE, fnEnd, lev_lo, datOf, bltD, binD, unD, Es.len, M.calm, methF, calF, asB, dund, dunName, isiX, aF0, aF1, aF2, aF3, aF4, aF5, aF6, aF7, aF8, aF9, aF10, aF11, aF12, aF13, aF14, aF15, aF16, aF17, aF18, aF19, aF20, aF21, aF22, aF23, aF24, aF25, aF26, aF27, aF28, aF29, aF30, aF31, aF32, aF33, aF34, aG8, aG16, aG20, aG22, aG24, aG25, aG26, aG27, aG28, aG29, aG30, aG31, aG33, aG35, aG37, aC0, aC1, aC2, aC3, aC4, aC5, aC6, aC7, aC8, aC9, aC10, aC11, aC12, aC13, aC14, aC15, aC16, aC17, aC18, aC19, aC20, aC21, aC22, aC23, aC24, aC25, aA0_25, aA0_24, aA0_23, aA0_22, aA0_21, aA0_20, aP0_19, aP0_18, aP0_17, aP0_16, aP0_14, aP0_15, aP0_13, aP0_26, aM0_0, aS0_12, aK0, hl, hv, oD]
      simp only [execs, q3]
      rfl

/-! ### the law's reading -/
abbrev wBd : Ss := fn16.body
abbrev wdL : E := .lc (.call 21 (.cons (.var 3) .nil) [] .nil) (.nm 3) (.seq (.bin .Add (.slc (.var 1) .no (.yes (.cst (.int 3)))) (.slc (.var 1) (.yes (.cst (.int 4))) (.yes (.cst (.int 5)))))) .no [3]
theorem wBd_eq : wBd = .cons (sAt wBd 0) (.cons (sAt wBd 1) (.cons (.asg (.nm 2) wdL) (.cons (sAt wBd 3) (.cons (sAt wBd 4) .nil)))) := rfl
theorem inI (i a b : Int) : inD (.int i) (.tup [.int a, .int b]) = some (a == i || b == i) := by
  simp [inD, inQ, D.py, D.pys, shp, PyData.plain, PyData.depth, PyData.plainAll, PyData.depthAll, PyData.eqv]
theorem inB (f g : Str) : inD (.lst [.str f]) (.tup [.lst [], .lst [.str g]]) = some (g == f) := by
  simp [inD, inQ, D.py, D.pys, shp, PyData.plain, PyData.depth, PyData.plainAll, PyData.depthAll, PyData.eqv, PyData.eqvAll]
theorem inB0 (g : Str) : inD (.lst []) (.tup [.lst [], .lst [.str g]]) = some true := by
  simp [inD, inQ, D.py, D.pys, shp, PyData.plain, PyData.depth, PyData.plainAll, PyData.depthAll, PyData.eqv, PyData.eqvAll]
section
variable (n : Nat) (m : Mu)
theorem w0_ok (x : Str) (ws : List Str) (hw : Txt.split x (Str.ofString " ") = ws) : exec pg (lev pg (n + 1)) (sAt wBd 0) [some (.d (.str x)), none, none, none] m = .nx [some (.d (.str x)), some (.d (.lst (ws.map D.str))), none, none] m := by
  have sp : ((Str.ofString " ").length != 0 && (Str.ofString " ").cps.all (· < 256)) = true := by decide +kernel
  simp [sAt, wBd, fn16, execs, exec, evI, seqI, seqD, forL, setT, ev, evs, evO, evC, evAnd, evOr, M.bind, M.ret, M.opt, Out.ofR, startE, tru, truth, isiD, ctOk, tyS, isiT, cmpD, eqE, fnEnd, lev_lo, datOf, bltD, binD, unD, Es.len, M.calm, methF, calF, asB, dund, dunName, isiX, aF0, aF1, aF2, aF3, aF4, aF5, aF6, aF7, aF8, aF9, aF10, aF11, aF12, aF13, aF14, aF15, aF16, aF17, aF18, aF19, aF20, aF21, aF22, aF23, aF24, aF25, aF26, aF27, aF28, aF29, aF30, aF31, aF32, aF33, aF34, aG8, aG16, aG20, aG22, aG24, aG25, aG26, aG27, aG28, aG29, aG30, aG31, aG33, aG35, aG37, aC0, aC1, aC2, aC3, aC4, aC5, aC6, aC7, aC8, aC9, aC10, aC11, aC12, aC13, aC14, aC15, aC16, aC17, aC18, aC19, aC20, aC21, aC22, aC23, aC24, aC25, aA0_25, aA0_24, aA0_23, aA0_22, aA0_21, aA0_20, aP0_19, aP0_18, aP0_17, aP0_16, aP0_14, aP0_15, aP0_13, aP0_26, aM0_0, aS0_12, aK0, seqOf, strOf, smD, sp, hw]
theorem w_fin (v : D) (r : D) (h : execs pg (lev pg (n + 1)) wBd [some (.d v), none, none, none] m = .rt (.d r) m) : (lev pg (n + 2)).hi 16 [.d v] m = .ok (.d r) m := by
  rw [lev_hi]
  unfold runFn
  rw [aF16]
  have s3 : startE fn16.ns [W.d v] = [some (.d v), none, none, none] := rfl
  simp only [s3]
  show (if 1 = fn16.np then (match execs pg (lev pg (n + 1)) wBd _ m with | .nx _ m1 => _ | .rt w m1 => _ | .ex c x _ m1 => _ | _ => _) else _) = _
  rw [h]
  simp [fn16, fnEnd]
theorem w_stop (x : Str) (ws : List Str) (hw : Txt.split x (Str.ofString " ") = ws) (h : exec pg (lev pg (n + 1)) (sAt wBd 1) [some (.d (.str x)), some (.d (.lst (ws.map D.str))), none, none] m = .rt (.d .non) m) : (lev pg (n + 2)).hi 16 [.d (.str x)] m = .ok (.d .non) m := by
  refine w_fin n m _ _ ?_
  rw [wBd_eq, xs_cons _ _ _ _ _ _ _ _ (w0_ok n m x ws hw)]
  simp only [execs, h]
/-- on behind the words' look -/
theorem w_on (hm : Wf m) (x a b c e : Str) (d k : Bool) (hw : Txt.split x (Str.ofString " ") = [a, b, c, wy d, e] ++ back1 k) (ka : WdOk a) (kb : WdOk b) (kc : WdOk c) (ke : WdOk e) (r : D)
    (h : execs pg (lev pg (n + 1)) (.cons (sAt wBd 3) (.cons (sAt wBd 4) .nil)) [some (.d (.str x)), some (.d (.lst (([a, b, c, wy d, e] ++ back1 k).map D.str))), some (.d (.lst (([a, b, c, e].map numW).map oD))), none] m = .rt (.d r) m) : (lev pg (n + 2)).hi 16 [.d (.str x)] m = .ok (.d r) m := by
  refine w_fin n m _ _ ?_
  have q1 : exec pg (lev pg (n + 1)) (sAt wBd 1) [some (.d (.str x)), some (.d (.lst (([a, b, c, wy d, e] ++ back1 k).map D.str))), none, none] m = .nx [some (.d (.str x)), some (.d (.lst (([a, b, c, wy d, e] ++ back1 k).map D.str))), none, none] m := by
    have iw := in_way d
    generalize wy d = Y at *
    have j5 := inI 5 5 6
    have j6 := inI 6 5 6
    have b0 := inB0 (Str.ofString "back")
    have b1 := inB (Str.ofString "back") (Str.ofString "back")
    simp at j5 j6 b1
    cases k <;> simp [back1, sAt, wBd, fn16, execs, exec, evI, seqI, seqD, forL, setT, ev, evs, evO, evC, evAnd, evOr, M.bind, M.ret, M.opt, Out.ofR, startE, tru, truth, isiD, ctOk, tyS, isiT, cmpD, eqE, fnEnd, lev_lo, datOf, bltD, binD, unD, Es.len, M.calm, methF, calF, asB, dund, dunName, isiX, aF0, aF1, aF2, aF3, aF4, aF5, aF6, aF7, aF8, aF9, aF10, aF11, aF12, aF13, aF14, aF15, aF16, aF17, aF18, aF19, aF20, aF21, aF22, aF23, aF24, aF25, aF26, aF27, aF28, aF29, aF30, aF31, aF32, aF33, aF34, aG8, aG16, aG20, aG22, aG24, aG25, aG26, aG27, aG28, aG29, aG30, aG31, aG33, aG35, aG37, aC0, aC1, aC2, aC3, aC4, aC5, aC6, aC7, aC8, aC9, aC10, aC11, aC12, aC13, aC14, aC15, aC16, aC17, aC18, aC19, aC20, aC21, aC22, aC23, aC24, aC25, aA0_25, aA0_24, aA0_23, aA0_22, aA0_21, aA0_20, aP0_19, aP0_18, aP0_17, aP0_16, aP0_14, aP0_15, aP0_13, aP0_26, aM0_0, aS0_12, aK0, seqOf, subD, L2.ixN, iw, j5, j6, b0, b1, slcD, cutL, HT.sIx, optI]
  have q2 : exec pg (lev pg (n + 1)) (.asg (.nm 2) wdL) [some (.d (.str x)), some (.d (.lst (([a, b, c, wy d, e] ++ back1 k).map D.str))), none, none] m = .nx [some (.d (.str x)), some (.d (.lst (([a, b, c, wy d, e] ++ back1 k).map D.str))), some (.d (.lst (([a, b, c, e].map numW).map oD))), none] m := by
    have e1 := lc_map (P := pg) (C := lev pg (n + 1)) (el := .call 21 (.cons (.var 3) .nil) [] .nil) (t := .nm 3) (i := .seq (.bin .Add (.slc (.var 1) .no (.yes (.cst (.int 3)))) (.slc (.var 1) (.yes (.cst (.int 4))) (.yes (.cst (.int 5)))))) (own := [3]) (e := [some (.d (.str x)), some (.d (.lst (([a, b, c, wy d, e] ++ back1 k).map D.str))), none, none]) (m := m) (m' := m) (ws := ([a, b, c, e].map D.str).map W.d) (fun w => match w with | .d (.str x) => oD (numW x) | _ => .non) hm (by
        generalize wy d = Y at *
        cases k <;> simp [back1, execs, exec, evI, seqI, seqD, forL, setT, ev, evs, evO, evC, evAnd, evOr, M.bind, M.ret, M.opt, Out.ofR, startE, tru, truth, isiD, ctOk, tyS, isiT, cmpD, eqE, fnEnd, lev_lo, datOf, bltD, binD, unD, Es.len, M.calm, methF, calF, asB, dund, dunName, isiX, aF0, aF1, aF2, aF3, aF4, aF5, aF6, aF7, aF8, aF9, aF10, aF11, aF12, aF13, aF14, aF15, aF16, aF17, aF18, aF19, aF20, aF21, aF22, aF23, aF24, aF25, aF26, aF27, aF28, aF29, aF30, aF31, aF32, aF33, aF34, aG8, aG16, aG20, aG22, aG24, aG25, aG26, aG27, aG28, aG29, aG30, aG31, aG33, aG35, aG37, aC0, aC1, aC2, aC3, aC4, aC5, aC6, aC7, aC8, aC9, aC10, aC11, aC12, aC13, aC14, aC15, aC16, aC17, aC18, aC19, aC20, aC21, aC22, aC23, aC24, aC25, aA0_25, aA0_24, aA0_23, aA0_22, aA0_21, aA0_20, aP0_19, aP0_18, aP0_17, aP0_16, aP0_14, aP0_15, aP0_13, aP0_26, aM0_0, aS0_12, aK0, slcD, cutL, HT.sIx, optI, strTop]) (by simp) (fun w hw' acc => by
      obtain ⟨z, hx, rfl⟩ := List.mem_map.mp hw'
      obtain ⟨y, hy, rfl⟩ := List.mem_map.mp hx
      obtain ⟨k1, k2⟩ : WdOk y := by
        simp only [List.mem_cons, List.not_mem_nil, or_false] at hy
        rcases hy with rfl | rfl | rfl | rfl <;> assumption
      have z := fig_ok n (m ++ [MO.lst (acc.map W.d)]) (dl_wf hm acc) y k1 k2
      simp [lcF, wipeE, datM, execs, exec, evI, seqI, seqD, forL, setT, ev, evs, evO, evC, evAnd, evOr, M.bind, M.ret, M.opt, Out.ofR, startE, tru, truth, isiD, ctOk, tyS, isiT, cmpD, eqE, fnEnd, lev_lo, datOf, bltD, binD, unD, Es.len, M.calm, methF, calF, asB, dund, dunName, isiX, aF0, aF1, aF2, aF3, aF4, aF5, aF6, aF7, aF8, aF9, aF10, aF11, aF12, aF13, aF14, aF15, aF16, aF17, aF18, aF19, aF20, aF21, aF22, aF23, aF24, aF25, aF26, aF27, aF28, aF29, aF30, aF31, aF32, aF33, aF34, aG8, aG16, aG20, aG22, aG24, aG25, aG26, aG27, aG28, aG29, aG30, aG31, aG33, aG35, aG37, aC0, aC1, aC2, aC3, aC4, aC5, aC6, aC7, aC8, aC9, aC10, aC11, aC12, aC13, aC14, aC15, aC16, aC17, aC18, aC19, aC20, aC21, aC22, aC23, aC24, aC25, aA0_25, aA0_24, aA0_23, aA0_22, aA0_21, aA0_20, aP0_19, aP0_18, aP0_17, aP0_16, aP0_14, aP0_15, aP0_13, aP0_26, aM0_0, aS0_12, aK0, z])
    have e2 : (([a, b, c, e].map D.str).map W.d).map (fun w => match w with | .d (.str x) => oD (numW x) | _ => .non) = ([a, b, c, e].map numW).map oD := by simp
    rw [e2] at e1
    rw [exec, e1]
    rfl
  rw [wBd_eq, xs_cons _ _ _ _ _ _ _ _ (w0_ok n m x _ hw), xs_cons _ _ _ _ _ _ _ _ q1, xs_cons _ _ _ _ _ _ _ _ q2, h]
theorem row_told (hm : Wf m) (x : Str) (ws : List Str) (hw : Txt.split x (Str.ofString " ") = ws) (hk : ∀ w ∈ ws, WdOk w) (o : Option (Int × Int × Int × Int × Bool × Bool)) (h : Rd ws o) : (lev pg (n + 2)).hi 16 [.d (.str x)] m = .ok (.d (oRow o)) m := by
  have p30 : (10 : Int) ^ 30 = 1000000000000000000000000000000 := by decide
  cases h with
  | len h5 h6 =>
    refine w_stop n m x ws hw ?_
    have j := inI (ws.length : Int) 5 6
    have j2 : ((5 : Int) == (ws.length : Int) || (6 : Int) == (ws.length : Int)) = false := by simp; omega
    rw [j2] at j
    simp [sAt, wBd, fn16, execs, exec, evI, seqI, seqD, forL, setT, ev, evs, evO, evC, evAnd, evOr, M.bind, M.ret, M.opt, Out.ofR, startE, tru, truth, isiD, ctOk, tyS, isiT, cmpD, eqE, fnEnd, lev_lo, datOf, bltD, binD, unD, Es.len, M.calm, methF, calF, asB, dund, dunName, isiX, aF0, aF1, aF2, aF3, aF4, aF5, aF6, aF7, aF8, aF9, aF10, aF11, aF12, aF13, aF14, aF15, aF16, aF17, aF18, aF19, aF20, aF21, aF22, aF23, aF24, aF25, aF26, aF27, aF28, aF29, aF30, aF31, aF32, aF33, aF34, aG8, aG16, aG20, aG22, aG24, aG25, aG26, aG27, aG28, aG29, aG30, aG31, aG33, aG35, aG37, aC0, aC1, aC2, aC3, aC4, aC5, aC6, aC7, aC8, aC9, aC10, aC11, aC12, aC13, aC14, aC15, aC16, aC17, aC18, aC19, aC20, aC21, aC22, aC23, aC24, aC25, aA0_25, aA0_24, aA0_23, aA0_22, aA0_21, aA0_20, aP0_19, aP0_18, aP0_17, aP0_16, aP0_14, aP0_15, aP0_13, aP0_26, aM0_0, aS0_12, aK0, seqOf, j]
  | @last a b c d e f hf =>
    refine w_stop n m x _ hw ?_
    have j6 := inI 6 5 6
    have iw := in2 d (Str.ofString "up") (Str.ofString "down")
    have b1 := inB f (Str.ofString "back")
    rw [flip_eq hf] at b1
    simp at j6
    cases q : (Str.ofString "up" == d || Str.ofString "down" == d) <;> rw [q] at iw <;> simp [sAt, wBd, fn16, execs, exec, evI, seqI, seqD, forL, setT, ev, evs, evO, evC, evAnd, evOr, M.bind, M.ret, M.opt, Out.ofR, startE, tru, truth, isiD, ctOk, tyS, isiT, cmpD, eqE, fnEnd, lev_lo, datOf, bltD, binD, unD, Es.len, M.calm, methF, calF, asB, dund, dunName, isiX, aF0, aF1, aF2, aF3, aF4, aF5, aF6, aF7, aF8, aF9, aF10, aF11, aF12, aF13, aF14, aF15, aF16, aF17, aF18, aF19, aF20, aF21, aF22, aF23, aF24, aF25, aF26, aF27, aF28, aF29, aF30, aF31, aF32, aF33, aF34, aG8, aG16, aG20, aG22, aG24, aG25, aG26, aG27, aG28, aG29, aG30, aG31, aG33, aG35, aG37, aC0, aC1, aC2, aC3, aC4, aC5, aC6, aC7, aC8, aC9, aC10, aC11, aC12, aC13, aC14, aC15, aC16, aC17, aC18, aC19, aC20, aC21, aC22, aC23, aC24, aC25, aA0_25, aA0_24, aA0_23, aA0_22, aA0_21, aA0_20, aP0_19, aP0_18, aP0_17, aP0_16, aP0_14, aP0_15, aP0_13, aP0_26, aM0_0, aS0_12, aK0, seqOf, subD, L2.ixN, iw, j6, b1, slcD, cutL, HT.sIx, optI]
  | @way a b c d e k h1 h2 =>
    refine w_stop n m x _ hw ?_
    have j5 := inI 5 5 6
    have j6 := inI 6 5 6
    simp at j5 j6
    have iw := in2 d (Str.ofString "up") (Str.ofString "down")
    rw [flip_eq h1, flip_eq h2] at iw
    cases k <;> simp [back1, sAt, wBd, fn16, execs, exec, evI, seqI, seqD, forL, setT, ev, evs, evO, evC, evAnd, evOr, M.bind, M.ret, M.opt, Out.ofR, startE, tru, truth, isiD, ctOk, tyS, isiT, cmpD, eqE, fnEnd, lev_lo, datOf, bltD, binD, unD, Es.len, M.calm, methF, calF, asB, dund, dunName, isiX, aF0, aF1, aF2, aF3, aF4, aF5, aF6, aF7, aF8, aF9, aF10, aF11, aF12, aF13, aF14, aF15, aF16, aF17, aF18, aF19, aF20, aF21, aF22, aF23, aF24, aF25, aF26, aF27, aF28, aF29, aF30, aF31, aF32, aF33, aF34, aG8, aG16, aG20, aG22, aG24, aG25, aG26, aG27, aG28, aG29, aG30, aG31, aG33, aG35, aG37, aC0, aC1, aC2, aC3, aC4, aC5, aC6, aC7, aC8, aC9, aC10, aC11, aC12, aC13, aC14, aC15, aC16, aC17, aC18, aC19, aC20, aC21, aC22, aC23, aC24, aC25, aA0_25, aA0_24, aA0_23, aA0_22, aA0_21, aA0_20, aP0_19, aP0_18, aP0_17, aP0_16, aP0_14, aP0_15, aP0_13, aP0_26, aM0_0, aS0_12, aK0, seqOf, subD, L2.ixN, iw, j5, j6]
  | @num a b c e d k hn =>
    refine w_on n m hm x a b c e d k hw (hk _ (by simp)) (hk _ (by simp)) (hk _ (by simp)) (hk _ (by simp)) _ ?_
    have i1 := in_non ([a, b, c, e].map numW)
    rw [hn] at i1
    generalize ([a, b, c, e].map numW).map oD = L at *
    generalize ([a, b, c, wy d, e] ++ back1 k).map D.str = LL at *
    simp [sAt, wBd, fn16, execs, exec, evI, seqI, seqD, forL, setT, ev, evs, evO, evC, evAnd, evOr, M.bind, M.ret, M.opt, Out.ofR, startE, tru, truth, isiD, ctOk, tyS, isiT, cmpD, eqE, fnEnd, lev_lo, datOf, bltD, binD, unD, Es.len, M.calm, methF, calF, asB, dund, dunName, isiX, aF0, aF1, aF2, aF3, aF4, aF5, aF6, aF7, aF8, aF9, aF10, aF11, aF12, aF13, aF14, aF15, aF16, aF17, aF18, aF19, aF20, aF21, aF22, aF23, aF24, aF25, aF26, aF27, aF28, aF29, aF30, aF31, aF32, aF33, aF34, aG8, aG16, aG20, aG22, aG24, aG25, aG26, aG27, aG28, aG29, aG30, aG31, aG33, aG35, aG37, aC0, aC1, aC2, aC3, aC4, aC5, aC6, aC7, aC8, aC9, aC10, aC11, aC12, aC13, aC14, aC15, aC16, aC17, aC18, aC19, aC20, aC21, aC22, aC23, aC24, aC25, aA0_25, aA0_24, aA0_23, aA0_22, aA0_21, aA0_20, aP0_19, aP0_18, aP0_17, aP0_16, aP0_14, aP0_15, aP0_13, aP0_26, aM0_0, aS0_12, aK0, seqOf, i1, oRow]
  | @bad a b c e d k f s l t n0 n1 n2 n3 hb =>
    refine w_on n m hm x a b c e d k hw (hk _ (by simp)) (hk _ (by simp)) (hk _ (by simp)) (hk _ (by simp)) _ ?_
    have i1 := in_non ([a, b, c, e].map numW)
    simp [n0, n1, n2, n3, oD] at i1 ⊢
    generalize D.str (wy d) = LL at *
    by_cases c1 : (if s < f then s else f) < 0
    · simp [sAt, wBd, fn16, execs, exec, evI, seqI, seqD, forL, setT, ev, evs, evO, evC, evAnd, evOr, M.bind, M.ret, M.opt, Out.ofR, startE, tru, truth, isiD, ctOk, tyS, isiT, cmpD, eqE, fnEnd, lev_lo, datOf, bltD, binD, unD, Es.len, M.calm, methF, calF, asB, dund, dunName, isiX, aF0, aF1, aF2, aF3, aF4, aF5, aF6, aF7, aF8, aF9, aF10, aF11, aF12, aF13, aF14, aF15, aF16, aF17, aF18, aF19, aF20, aF21, aF22, aF23, aF24, aF25, aF26, aF27, aF28, aF29, aF30, aF31, aF32, aF33, aF34, aG8, aG16, aG20, aG22, aG24, aG25, aG26, aG27, aG28, aG29, aG30, aG31, aG33, aG35, aG37, aC0, aC1, aC2, aC3, aC4, aC5, aC6, aC7, aC8, aC9, aC10, aC11, aC12, aC13, aC14, aC15, aC16, aC17, aC18, aC19, aC20, aC21, aC22, aC23, aC24, aC25, aA0_25, aA0_24, aA0_23, aA0_22, aA0_21, aA0_20, aP0_19, aP0_18, aP0_17, aP0_16, aP0_14, aP0_15, aP0_13, aP0_26, aM0_0, aS0_12, aK0, seqOf, i1, oRow, slcD, cutL, HT.sIx, optI, allI, minI, c1]
    · by_cases c2 : l < 1
      · simp [sAt, wBd, fn16, execs, exec, evI, seqI, seqD, forL, setT, ev, evs, evO, evC, evAnd, evOr, M.bind, M.ret, M.opt, Out.ofR, startE, tru, truth, isiD, ctOk, tyS, isiT, cmpD, eqE, fnEnd, lev_lo, datOf, bltD, binD, unD, Es.len, M.calm, methF, calF, asB, dund, dunName, isiX, aF0, aF1, aF2, aF3, aF4, aF5, aF6, aF7, aF8, aF9, aF10, aF11, aF12, aF13, aF14, aF15, aF16, aF17, aF18, aF19, aF20, aF21, aF22, aF23, aF24, aF25, aF26, aF27, aF28, aF29, aF30, aF31, aF32, aF33, aF34, aG8, aG16, aG20, aG22, aG24, aG25, aG26, aG27, aG28, aG29, aG30, aG31, aG33, aG35, aG37, aC0, aC1, aC2, aC3, aC4, aC5, aC6, aC7, aC8, aC9, aC10, aC11, aC12, aC13, aC14, aC15, aC16, aC17, aC18, aC19, aC20, aC21, aC22, aC23, aC24, aC25, aA0_25, aA0_24, aA0_23, aA0_22, aA0_21, aA0_20, aP0_19, aP0_18, aP0_17, aP0_16, aP0_14, aP0_15, aP0_13, aP0_26, aM0_0, aS0_12, aK0, seqOf, i1, oRow, slcD, cutL, HT.sIx, optI, allI, minI, subD, L2.ixN, c1, c2]
      · have c3 : (if s > f then s else f) + l > 1000000000000000000000000000000 := by
          split at c1 <;> omega
        have c3' : (1000000000000000000000000000000 : Int) < (if f < s then s else f) + l := c3
        simp [sAt, wBd, fn16, execs, exec, evI, seqI, seqD, forL, setT, ev, evs, evO, evC, evAnd, evOr, M.bind, M.ret, M.opt, Out.ofR, startE, tru, truth, isiD, ctOk, tyS, isiT, cmpD, eqE, fnEnd, lev_lo, datOf, bltD, binD, unD, Es.len, M.calm, methF, calF, asB, dund, dunName, isiX, aF0, aF1, aF2, aF3, aF4, aF5, aF6, aF7, aF8, aF9, aF10, aF11, aF12, aF13, aF14, aF15, aF16, aF17, aF18, aF19, aF20, aF21, aF22, aF23, aF24, aF25, aF26, aF27, aF28, aF29, aF30, aF31, aF32, aF33, aF34, aG8, aG16, aG20, aG22, aG24, aG25, aG26, aG27, aG28, aG29, aG30, aG31, aG33, aG35, aG37, aC0, aC1, aC2, aC3, aC4, aC5, aC6, aC7, aC8, aC9, aC10, aC11, aC12, aC13, aC14, aC15, aC16, aC17, aC18, aC19, aC20, aC21, aC22, aC23, aC24, aC25, aA0_25, aA0_24, aA0_23, aA0_22, aA0_21, aA0_20, aP0_19, aP0_18, aP0_17, aP0_16, aP0_14, aP0_15, aP0_13, aP0_26, aM0_0, aS0_12, aK0, seqOf, i1, oRow, slcD, cutL, HT.sIx, optI, allI, minI, maxI, subD, L2.ixN, c1, c2, c3']
  | @ok a b c e d k f s l t n0 n1 n2 n3 b0 b1 b2 b3 =>
    refine w_on n m hm x a b c e d k hw (hk _ (by simp)) (hk _ (by simp)) (hk _ (by simp)) (hk _ (by simp)) _ ?_
    have i1 := in_non ([a, b, c, e].map numW)
    simp [n0, n1, n2, n3, oD] at i1 ⊢
    have ie := way_eq d
    have j5 := eqP_i 5 6
    have j6 := eqP_i 6 6
    simp at j5 j6
    have c1 : ¬ (if s < f then s else f) < 0 := by split <;> omega
    have c2 : ¬ l < 1 := by omega
    have c3 : ¬ (1000000000000000000000000000000 : Int) < (if f < s then s else f) + l := by
      have : (if s > f then s else f) + l ≤ 10 ^ 30 := b3
      rw [p30] at this
      exact Int.not_lt.mpr this
    generalize wy d = Y at *
    cases k <;> simp [back1, sAt, wBd, fn16, execs, exec, evI, seqI, seqD, forL, setT, ev, evs, evO, evC, evAnd, evOr, M.bind, M.ret, M.opt, Out.ofR, startE, tru, truth, isiD, ctOk, tyS, isiT, cmpD, eqE, fnEnd, lev_lo, datOf, bltD, binD, unD, Es.len, M.calm, methF, calF, asB, dund, dunName, isiX, aF0, aF1, aF2, aF3, aF4, aF5, aF6, aF7, aF8, aF9, aF10, aF11, aF12, aF13, aF14, aF15, aF16, aF17, aF18, aF19, aF20, aF21, aF22, aF23, aF24, aF25, aF26, aF27, aF28, aF29, aF30, aF31, aF32, aF33, aF34, aG8, aG16, aG20, aG22, aG24, aG25, aG26, aG27, aG28, aG29, aG30, aG31, aG33, aG35, aG37, aC0, aC1, aC2, aC3, aC4, aC5, aC6, aC7, aC8, aC9, aC10, aC11, aC12, aC13, aC14, aC15, aC16, aC17, aC18, aC19, aC20, aC21, aC22, aC23, aC24, aC25, aA0_25, aA0_24, aA0_23, aA0_22, aA0_21, aA0_20, aP0_19, aP0_18, aP0_17, aP0_16, aP0_14, aP0_15, aP0_13, aP0_26, aM0_0, aS0_12, aK0, seqOf, i1, oRow, slcD, cutL, HT.sIx, optI, allI, minI, maxI, subD, L2.ixN, c1, c2, c3, ie, j5, j6]
theorem row_not (x : D) (h : notS x = true) : (lev pg (n + 2)).hi 16 [.d x] m = .ok (.d .non) m := by
  have j := inI 0 5 6
  simp at j
  rw [lev_hi]
  cases x <;> first | (cases h; done) | simp [runFn, fn16, execs, exec, evI, seqI, seqD, forL, setT, ev, evs, evO, evC, evAnd, evOr, M.bind, M.ret, M.opt, Out.ofR, startE, tru, truth, isiD, ctOk, tyS, isiT, cmpD, eqE, fnEnd, lev_lo, datOf, bltD, binD, unD, Es.len, M.calm, methF, calF, asB, dund, dunName, isiX, aF0, aF1, aF2, aF3, aF4, aF5, aF6, aF7, aF8, aF9, aF10, aF11, aF12, aF13, aF14, aF15, aF16, aF17, aF18, aF19, aF20, aF21, aF22, aF23, aF24, aF25, aF26, aF27, aF28, aF29, aF30, aF31, aF32, aF33, aF34, aG8, aG16, aG20, aG22, aG24, aG25, aG26, aG27, aG28, aG29, aG30, aG31, aG33, aG35, aG37, aC0, aC1, aC2, aC3, aC4, aC5, aC6, aC7, aC8, aC9, aC10, aC11, aC12, aC13, aC14, aC15, aC16, aC17, aC18, aC19, aC20, aC21, aC22, aC23, aC24, aC25, aA0_25, aA0_24, aA0_23, aA0_22, aA0_21, aA0_20, aP0_19, aP0_18, aP0_17, aP0_16, aP0_14, aP0_15, aP0_13, aP0_26, aM0_0, aS0_12, aK0, seqOf, isiD, ctOk, tyS, isiT, seqOf, j]
end

/-! ### any value read -/
theorem dig_lt : ∀ (cs : List Nat) (acc : Nat), (∀ c ∈ cs, 48 ≤ c ∧ c ≤ 57) → cs.foldl (fun acc c => acc * 10 + (c - 48)) acc < (acc + 1) * 10 ^ cs.length
  | [], acc, _ => by simp
  | c :: r, acc, h => by
    have ih := dig_lt r (acc * 10 + (c - 48)) fun x hx => h x (List.mem_cons_of_mem _ hx)
    obtain ⟨h1, h2⟩ := h c List.mem_cons_self
    have h3 : (acc * 10 + (c - 48) + 1) * 10 ^ r.length ≤ ((acc + 1) * 10) * 10 ^ r.length := Nat.mul_le_mul_right _ (by omega)
    rw [List.foldl_cons, List.length_cons, Nat.pow_succ, Nat.mul_comm (10 ^ r.length) 10, ← Nat.mul_assoc]
    omega
theorem numW_sm {w : Str} {t : Int} (h : numW w = some t) (hl : w.length ≤ 500) : Sm t = true := by
  unfold numW at h
  cases hA : ((figs w == Str.ofString "") || !(TL.tl (figs w)).all isFig) with
  | true => rw [hA] at h; cases h
  | false =>
    rw [hA] at h
    simp only [cond_false] at h
    cases hB : ((TL.tl (figs w)).head? == some 48 && w != Str.ofString "0") with
    | true => rw [hB] at h; cases h
    | false =>
      rw [hB] at h
      simp only [cond_false] at h
      obtain ⟨b1, b2⟩ := Bool.or_eq_false_iff.mp hA
      have b2 : (TL.tl (figs w)).all isFig = true := by simpa using b2
      have ne : TL.tl (figs w) ≠ [] := fun z => by
        rw [str_ext, z] at b1
        simp [show TL.tl (Str.ofString "") = [] by decide] at b1
      have fl : (TL.tl (figs w)).length ≤ 500 := by
        have h1 := TL.len_tl w
        rw [tl_figs]
        split
        · simp only [List.length_tail]; omega
        · omega
      rw [fig_text (by omega) ne (all_fig b2)] at h
      have d1 : NumText.digitsVal (TL.tl (figs w)) < (0 + 1) * 10 ^ (TL.tl (figs w)).length := dig_lt _ 0 (all_fig b2)
      have d2 : 10 ^ (TL.tl (figs w)).length ≤ 10 ^ 500 := Nat.pow_le_pow_right (by decide) fl
      have d3 : (10 : Nat) ^ 500 < 2 ^ 1900 := by decide +kernel
      have d4 : t.natAbs = NumText.digitsVal (TL.tl (figs w)) := by
        cases h
        split <;> omega
      refine decide_eq_true ?_
      rw [d4]
      refine Nat.lt_of_lt_of_le d1 ?_
      rw [Nat.zero_add, Nat.one_mul]
      exact Nat.le_trans d2 (Nat.le_of_lt d3)
/-- a text that may be read -/
def Tx (x : Str) : Prop := x.length ≤ 500 ∧ ∀ c ∈ TL.tl x, c < 16 ^ 8
theorem wd_len {x w : Str} (h : w ∈ Txt.split x (Str.ofString " ")) : w.length ≤ x.length ∧ ∀ c ∈ TL.tl w, c ∈ TL.tl x := by
  have e := TL.split_spl x (Str.ofString " ") (by decide) (TL.kind_ok (by decide +kernel))
  have hy2 : TL.tl w ∈ TL.spl (TL.tl (Str.ofString " ")) 0 [] (TL.tl x) := by
    rw [← e]
    exact List.mem_map.mpr ⟨w, h, rfl⟩
  refine ⟨?_, fun c hc => ?_⟩
  · have := spl_len hy2
    rw [TL.len_tl, TL.len_tl]
    simpa using this
  · rcases spl_mem hy2 hc with z | z
    · cases z
    · exact z
theorem Tx.wds {x : Str} (h : Tx x) : ∀ w ∈ Txt.split x (Str.ofString " "), WdOk w ∧ w.length ≤ 500 := fun w hw => by
  obtain ⟨h1, h2⟩ := wd_len hw
  have h3 := h.1
  have fl : (TL.tl (figs w)).length ≤ w.length ∧ ∀ c ∈ TL.tl (figs w), c ∈ TL.tl w := by
    rw [tl_figs]
    split
    · exact ⟨by rw [TL.len_tl]; simp, fun c hc => List.mem_of_mem_tail hc⟩
    · exact ⟨by rw [TL.len_tl]; exact Nat.le_refl _, fun c hc => hc⟩
  refine ⟨⟨Bool.and_eq_true_iff.mpr ⟨decide_eq_true (by rw [TL.len_tl]; simp only [strTop]; omega), List.all_eq_true.mpr fun c hc => decide_eq_true (h.2 c (h2 c (fl.2 c hc)))⟩, by omega⟩, by omega⟩
/-- a value that may be read -/
def Val (v : D) : Prop := Rp v ∧ (notS v = true ∨ ∃ x, v = .str x ∧ Tx x)
theorem Tx.val {x : Str} (h : Tx x) : Val (.str x) := ⟨⟨.str x, rfl, by have := h.1; simp only [D.bnd]; omega, by simp [PyData.depth]⟩, .inr ⟨x, rfl, h⟩⟩
/-- what a value tells -/
def Tl (v : D) (o : Option (Int × Int × Int × Int × Bool × Bool)) : Prop := (notS v = true ∧ o = none) ∨ ∃ x, v = .str x ∧ Tx x ∧ Rd (Txt.split x (Str.ofString " ")) o
theorem Val.tl {v : D} (h : Val v) : ∃ o, Tl v o := by
  rcases h.2 with h | ⟨x, rfl, hx⟩
  · exact ⟨none, .inl ⟨h, rfl⟩⟩
  · obtain ⟨o, ho⟩ := rd_ex (Txt.split x (Str.ofString " "))
    exact ⟨o, .inr ⟨x, rfl, hx, ho⟩⟩
section
variable (n : Nat) (m : Mu) (hm : Wf m) (v : D)
include hm
theorem told_tl (o : Option (Int × Int × Int × Int × Bool × Bool)) (h : Tl v o) : (lev pg (n + 4)).hi 30 [.d v] m = .ok (.d (oTie o)) m := by
  rcases h with ⟨h, rfl⟩ | ⟨x, rfl, hx, h⟩
  · exact told_not n m v h
  · exact told_any n m hm x _ rfl (fun w hw => (hx.wds w hw).1) o h
theorem row_tl (o : Option (Int × Int × Int × Int × Bool × Bool)) (h : Tl v o) : (lev pg (n + 2)).hi 16 [.d v] m = .ok (.d (oRow o)) m := by
  rcases h with ⟨h, rfl⟩ | ⟨x, rfl, hx, h⟩
  · exact row_not n m v h
  · exact row_told n m hm x _ rfl (fun w hw => (hx.wds w hw).1) o h
theorem of_no (h : Tl v none) : (lev pg (n + 5)).hi 28 [.d v] m = .exc 5 v m := by
  have e := told_tl n m hm v _ h
  have e : (lev pg (n + 4)).hi 30 [.d v] m = .ok (.d .non) m := e
  have c := cut_self hm
  rw [lev_hi]
  simp [runFn, fn28, execs, exec, evI, seqI, seqD, forL, setT, ev, evs, evO, evC, evAnd, evOr, M.bind, M.ret, M.opt, Out.ofR, startE, tru, truth, isiD, ctOk, tyS, isiT, cmpD, eqE, fnEnd, lev_lo, datOf, bltD, binD, unD, Es.len, M.calm, methF, calF, asB, dund, dunName, isiX, aF0, aF1, aF2, aF3, aF4, aF5, aF6, aF7, aF8, aF9, aF10, aF11, aF12, aF13, aF14, aF15, aF16, aF17, aF18, aF19, aF20, aF21, aF22, aF23, aF24, aF25, aF26, aF27, aF28, aF29, aF30, aF31, aF32, aF33, aF34, aG8, aG16, aG20, aG22, aG24, aG25, aG26, aG27, aG28, aG29, aG30, aG31, aG33, aG35, aG37, aC0, aC1, aC2, aC3, aC4, aC5, aC6, aC7, aC8, aC9, aC10, aC11, aC12, aC13, aC14, aC15, aC16, aC17, aC18, aC19, aC20, aC21, aC22, aC23, aC24, aC25, aA0_25, aA0_24, aA0_23, aA0_22, aA0_21, aA0_20, aP0_19, aP0_18, aP0_17, aP0_16, aP0_14, aP0_15, aP0_13, aP0_26, aM0_0, aS0_12, aK0, e, lev_rm, c]
theorem of_yes (f s l a : Int) (d b : Bool) (h : Tl v (some (f, s, l, a, d, b))) : (lev pg (n + 5)).hi 28 [.d v] m = .ok (.d (tieD f s l a d b)) m := by
  have e : (lev pg (n + 4)).hi 30 [.d v] m = .ok (.d (tieD f s l a d b)) m := told_tl n m hm v _ h
  rw [lev_hi]
  simp [runFn, fn28, execs, exec, evI, seqI, seqD, forL, setT, ev, evs, evO, evC, evAnd, evOr, M.bind, M.ret, M.opt, Out.ofR, startE, tru, truth, isiD, ctOk, tyS, isiT, cmpD, eqE, fnEnd, lev_lo, datOf, bltD, binD, unD, Es.len, M.calm, methF, calF, asB, dund, dunName, isiX, aF0, aF1, aF2, aF3, aF4, aF5, aF6, aF7, aF8, aF9, aF10, aF11, aF12, aF13, aF14, aF15, aF16, aF17, aF18, aF19, aF20, aF21, aF22, aF23, aF24, aF25, aF26, aF27, aF28, aF29, aF30, aF31, aF32, aF33, aF34, aG8, aG16, aG20, aG22, aG24, aG25, aG26, aG27, aG28, aG29, aG30, aG31, aG33, aG35, aG37, aC0, aC1, aC2, aC3, aC4, aC5, aC6, aC7, aC8, aC9, aC10, aC11, aC12, aC13, aC14, aC15, aC16, aC17, aC18, aC19, aC20, aC21, aC22, aC23, aC24, aC25, aA0_25, aA0_24, aA0_23, aA0_22, aA0_21, aA0_20, aP0_19, aP0_18, aP0_17, aP0_16, aP0_14, aP0_15, aP0_13, aP0_26, aM0_0, aS0_12, aK0, e]
theorem lm_no (h : Tl v none) : (lev pg (n + 6)).hi 34 [.d v] m = .exc 5 v m := by
  have e := of_no n m hm v h
  have c := cut_self hm
  rw [lev_hi]
  simp [runFn, fn34, execs, exec, evI, seqI, seqD, forL, setT, ev, evs, evO, evC, evAnd, evOr, M.bind, M.ret, M.opt, Out.ofR, startE, tru, truth, isiD, ctOk, tyS, isiT, cmpD, eqE, fnEnd, lev_lo, datOf, bltD, binD, unD, Es.len, M.calm, methF, calF, asB, dund, dunName, isiX, aF0, aF1, aF2, aF3, aF4, aF5, aF6, aF7, aF8, aF9, aF10, aF11, aF12, aF13, aF14, aF15, aF16, aF17, aF18, aF19, aF20, aF21, aF22, aF23, aF24, aF25, aF26, aF27, aF28, aF29, aF30, aF31, aF32, aF33, aF34, aG8, aG16, aG20, aG22, aG24, aG25, aG26, aG27, aG28, aG29, aG30, aG31, aG33, aG35, aG37, aC0, aC1, aC2, aC3, aC4, aC5, aC6, aC7, aC8, aC9, aC10, aC11, aC12, aC13, aC14, aC15, aC16, aC17, aC18, aC19, aC20, aC21, aC22, aC23, aC24, aC25, aA0_25, aA0_24, aA0_23, aA0_22, aA0_21, aA0_20, aP0_19, aP0_18, aP0_17, aP0_16, aP0_14, aP0_15, aP0_13, aP0_26, aM0_0, aS0_12, aK0, e, lev_rm, c]
theorem lm_yes (f s l a : Int) (d b : Bool) (h : Tl v (some (f, s, l, a, d, b))) : (lev pg (n + 6)).hi 34 [.d v] m = .ok (.d (tieD f s l a d b)) m := by
  have e := of_yes n m hm v f s l a d b h
  rw [lev_hi]
  simp [runFn, fn34, execs, exec, evI, seqI, seqD, forL, setT, ev, evs, evO, evC, evAnd, evOr, M.bind, M.ret, M.opt, Out.ofR, startE, tru, truth, isiD, ctOk, tyS, isiT, cmpD, eqE, fnEnd, lev_lo, datOf, bltD, binD, unD, Es.len, M.calm, methF, calF, asB, dund, dunName, isiX, aF0, aF1, aF2, aF3, aF4, aF5, aF6, aF7, aF8, aF9, aF10, aF11, aF12, aF13, aF14, aF15, aF16, aF17, aF18, aF19, aF20, aF21, aF22, aF23, aF24, aF25, aF26, aF27, aF28, aF29, aF30, aF31, aF32, aF33, aF34, aG8, aG16, aG20, aG22, aG24, aG25, aG26, aG27, aG28, aG29, aG30, aG31, aG33, aG35, aG37, aC0, aC1, aC2, aC3, aC4, aC5, aC6, aC7, aC8, aC9, aC10, aC11, aC12, aC13, aC14, aC15, aC16, aC17, aC18, aC19, aC20, aC21, aC22, aC23, aC24, aC25, aA0_25, aA0_24, aA0_23, aA0_22, aA0_21, aA0_20, aP0_19, aP0_18, aP0_17, aP0_16, aP0_14, aP0_15, aP0_13, aP0_26, aM0_0, aS0_12, aK0, e]
theorem read_ok (hv : Val v) : (lev pg (n + 8)).hi 6 [.d v] m = .ok (.d (.bl true)) m := by
  obtain ⟨o, h⟩ := hv.tl
  have nl : W.noL (.d v) = true := by
    rcases hv.2 with h | ⟨x, rfl, _⟩
    · cases v <;> first | (cases h; done) | rfl
    · rfl
  have e2 := row_tl (n + 5) m hm v o h
  obtain ⟨z, hz⟩ := rp_str hv.1
  have e3 := eqP_str z z
  cases o with
  | none =>
    have e1 := met_exc (n + 6) m m 34 5 [.d v] v (lm_no n m hm v h) (by simp [nl]) hm.noL rfl (by rw [nx_eq]; decide)
    have e2 : (lev pg (n + 7)).hi 16 [.d v] m = .ok (.d .non) m := e2
    rw [lev_hi]
    simp [runFn, fn6, execs, exec, evI, seqI, seqD, forL, setT, ev, evs, evO, evC, evAnd, evOr, M.bind, M.ret, M.opt, Out.ofR, startE, tru, truth, isiD, ctOk, tyS, isiT, cmpD, eqE, fnEnd, lev_lo, datOf, bltD, binD, unD, Es.len, M.calm, methF, calF, asB, dund, dunName, isiX, aF0, aF1, aF2, aF3, aF4, aF5, aF6, aF7, aF8, aF9, aF10, aF11, aF12, aF13, aF14, aF15, aF16, aF17, aF18, aF19, aF20, aF21, aF22, aF23, aF24, aF25, aF26, aF27, aF28, aF29, aF30, aF31, aF32, aF33, aF34, aG8, aG16, aG20, aG22, aG24, aG25, aG26, aG27, aG28, aG29, aG30, aG31, aG33, aG35, aG37, aC0, aC1, aC2, aC3, aC4, aC5, aC6, aC7, aC8, aC9, aC10, aC11, aC12, aC13, aC14, aC15, aC16, aC17, aC18, aC19, aC20, aC21, aC22, aC23, aC24, aC25, aA0_25, aA0_24, aA0_23, aA0_22, aA0_21, aA0_20, aP0_19, aP0_18, aP0_17, aP0_16, aP0_14, aP0_15, aP0_13, aP0_26, aM0_0, aS0_12, aK0, e1, e2, e3, hz, attr, nx_eq, hm.noL, W.noL, capsOf, nlR, nl]
  | some q =>
    obtain ⟨f, s, l, a, d, b⟩ := q
    have e1 := met_ok (n + 6) m m 34 [.d v] _ (lm_yes n m hm v f s l a d b h) (by simp [nl]) hm.noL rfl
    have e2 : (lev pg (n + 7)).hi 16 [.d v] m = .ok (.d (rowD f s l a d b)) m := e2
    have e4 := of_yes (n + 2) m hm v f s l a d b h
    have e5 := rowof_ok (n + 4) m f s l a d b
    obtain ⟨s1, s2, s3, s4⟩ : Sm f = true ∧ Sm s = true ∧ Sm l = true ∧ Sm a = true := by
      rcases h with ⟨_, h⟩ | ⟨x, rfl, hx, h⟩
      · cases h
      · generalize hq : Txt.split x (Str.ofString " ") = ws at h
        cases h with
        | ok n0 n1 n2 n3 b0 b1 b2 b3 =>
          have g : ∀ w ∈ Txt.split x (Str.ofString " "), w.length ≤ 500 := fun w hw => (hx.wds w hw).2
          rw [hq] at g
          exact ⟨numW_sm n0 (g _ (by simp)), numW_sm n1 (g _ (by simp)), numW_sm n2 (g _ (by simp)), numW_sm n3 (g _ (by simp))⟩
    obtain ⟨y, hy⟩ := reprD_row f s l a d b s1 s2 s3 s4
    have e6 := eqP_str y y
    rw [lev_hi]
    simp [runFn, fn6, execs, exec, evI, seqI, seqD, forL, setT, ev, evs, evO, evC, evAnd, evOr, M.bind, M.ret, M.opt, Out.ofR, startE, tru, truth, isiD, ctOk, tyS, isiT, cmpD, eqE, fnEnd, lev_lo, datOf, bltD, binD, unD, Es.len, M.calm, methF, calF, asB, dund, dunName, isiX, aF0, aF1, aF2, aF3, aF4, aF5, aF6, aF7, aF8, aF9, aF10, aF11, aF12, aF13, aF14, aF15, aF16, aF17, aF18, aF19, aF20, aF21, aF22, aF23, aF24, aF25, aF26, aF27, aF28, aF29, aF30, aF31, aF32, aF33, aF34, aG8, aG16, aG20, aG22, aG24, aG25, aG26, aG27, aG28, aG29, aG30, aG31, aG33, aG35, aG37, aC0, aC1, aC2, aC3, aC4, aC5, aC6, aC7, aC8, aC9, aC10, aC11, aC12, aC13, aC14, aC15, aC16, aC17, aC18, aC19, aC20, aC21, aC22, aC23, aC24, aC25, aA0_25, aA0_24, aA0_23, aA0_22, aA0_21, aA0_20, aP0_19, aP0_18, aP0_17, aP0_16, aP0_14, aP0_15, aP0_13, aP0_26, aM0_0, aS0_12, aK0, e1, e2, e4, e5, e6, hy, hm.noL, W.noL, capsOf, nlR, nl]
end

/-! ### lines with one thing otherwise -/
def Gc (c : Nat) : Prop := c < 128 ∧ c ≠ 10
def As (x : Str) (L : Nat) : Prop := x.length ≤ L ∧ ∀ c ∈ TL.tl x, Gc c
def tot (ys : List Str) : Nat := (ys.map fun y => y.length + 1).sum
theorem tot_app (a b : List Str) : tot (a ++ b) = tot a + tot b := by simp [tot]
theorem tot_one (a : Str) : tot [a] = a.length + 1 := by simp [tot]
theorem tot_len (ys : List Str) : ys.length ≤ tot ys := by
  induction ys with
  | nil => simp
  | cons y r ih =>
    have : tot (y :: r) = y.length + 1 + tot r := by simp [tot]
    simp only [List.length_cons]
    omega
theorem tot_sum (ys : List Str) : tot ys = (ys.map (·.length)).sum + ys.length := by
  induction ys with
  | nil => rfl
  | cons y r ih =>
    have : tot (y :: r) = y.length + 1 + tot r := by simp [tot]
    simp only [List.map_cons, List.sum_cons, List.length_cons]
    omega
theorem As.le {x : Str} {L M : Nat} (h : As x L) (hl : L ≤ M) : As x M := ⟨Nat.le_trans h.1 hl, h.2⟩
theorem As.tx {x : Str} {L : Nat} (h : As x L) (hl : L ≤ 500) : Tx x := ⟨Nat.le_trans h.1 hl, fun c hc => Nat.lt_trans (h.2 c hc).1 (by decide)⟩
theorem len_app (x y : Str) : (x ++ y).length = x.length + y.length := by rw [TL.len_tl, TL.tl_append, List.length_append, ← TL.len_tl, ← TL.len_tl]
theorem As.app {x y : Str} {L M : Nat} (h : As x L) (k : As y M) : As (x ++ y) (L + M) := by
  refine ⟨?_, fun c hc => ?_⟩
  · have := h.1; have := k.1; rw [len_app]; omega
  · rw [TL.tl_append] at hc
    rcases List.mem_append.mp hc with z | z
    · exact h.2 c z
    · exact k.2 c z
theorem As.cut0 {x : Str} {L : Nat} (h : As x L) (i : Nat) : As (L2.cutS x none (some (i : Int))) L := by
  have h1 := h.1
  rw [TL.len_tl] at h1
  exact ⟨by rw [TL.len_tl, tl_cut0, List.length_take]; omega, fun c hc => h.2 c (List.mem_of_mem_take (by rwa [tl_cut0] at hc))⟩
theorem As.cut1 {x : Str} {L : Nat} (h : As x L) (i : Nat) : As (L2.cutS x (some (i : Int)) none) L := by
  have h1 := h.1
  rw [TL.len_tl] at h1
  exact ⟨by rw [TL.len_tl, tl_cut1, List.length_drop]; omega, fun c hc => h.2 c (List.mem_of_mem_drop (by rwa [tl_cut1] at hc))⟩
theorem join_as {ys : List Str} {T : Nat} (hc : ∀ y ∈ ys, ∀ c ∈ TL.tl y, Gc c) (ht : tot ys ≤ T) : As (Txt.join (Str.ofString " ") ys) T := by
  have e : TL.tl (Str.ofString " ") = [32] := by decide
  rw [TL.join_eq]
  refine ⟨?_, fun c hc' => ?_⟩
  · rw [TL.len_tl, TL.tl_join]
    refine Nat.le_trans (joinL_len _ _) ?_
    rw [List.map_map, List.length_map, e]
    have e2 : (ys.map (List.length ∘ TL.tl)) = ys.map (·.length) := List.map_congr_left fun y _ => (TL.len_tl y).symm
    rw [e2]
    have := tot_sum ys
    simp only [List.length_singleton, Nat.mul_one]
    omega
  · rw [TL.tl_join, e] at hc'
    rcases joinL_mem hc' with z | ⟨p, hp, z⟩
    · rw [List.mem_singleton.mp z]
      exact ⟨by decide, by decide⟩
    · obtain ⟨y, hy, rfl⟩ := List.mem_map.mp hp
      exact hc y hy c z
theorem allS_strs : ∀ ys : List Str, allS (ys.map D.str) = some ys
  | [] => rfl
  | y :: r => by simp [allS, allS_strs r]
theorem sm_join {ys : List Str} (h : tot ys ≤ strTop) : smD .join (Str.ofString " ") [.d (.lst (ys.map D.str))] = some (.d (.str (Txt.join (Str.ofString " ") ys))) := by
  have e : joinB (Str.ofString " ") ys = true := decide_eq_true (by
    have := tot_sum ys
    have h1 : (Str.ofString " ").length = 1 := by decide
    rw [h1, Nat.mul_one]
    omega)
  simp [smD, allS_strs, e]
theorem spl_tot {S : List Nat} : ∀ {l : List Nat} {k : Nat} {acc : List Nat}, ((TL.spl S k acc l).map fun p => p.length + 1).sum ≤ acc.length + l.length + 1
  | [], k, acc => by
    rw [TL.spl_nil]
    simp
  | d :: r, 0, acc => by
    show ((if TL.pre S (d :: r) = true then acc :: TL.spl S (S.length - 1) [] r else TL.spl S 0 (acc ++ [d]) r).map fun p => p.length + 1).sum ≤ _
    split
    · have := spl_tot (S := S) (l := r) (k := S.length - 1) (acc := [])
      simp at this ⊢
      omega
    · have := spl_tot (S := S) (l := r) (k := 0) (acc := acc ++ [d])
      simp at this ⊢
      omega
  | d :: r, k + 1, acc => by
    have := spl_tot (S := S) (l := r) (k := k) (acc := acc)
    show ((TL.spl S k acc r).map fun p => p.length + 1).sum ≤ _
    simp at this ⊢
    omega
theorem spl_ne {S : List Nat} : ∀ {l : List Nat} {k : Nat} {acc : List Nat}, TL.spl S k acc l ≠ []
  | [], k, acc => by
    rw [TL.spl_nil]
    simp
  | d :: r, 0, acc => by
    show (if TL.pre S (d :: r) = true then acc :: TL.spl S (S.length - 1) [] r else TL.spl S 0 (acc ++ [d]) r) ≠ []
    split
    · simp
    · exact spl_ne
  | d :: r, k + 1, acc => spl_ne (l := r) (k := k) (acc := acc)
theorem split_as {x : Str} {L : Nat} (h : As x L) : (∀ w ∈ Txt.split x (Str.ofString " "), ∀ c ∈ TL.tl w, Gc c) ∧ tot (Txt.split x (Str.ofString " ")) ≤ L + 1 ∧ Txt.split x (Str.ofString " ") ≠ [] := by
  have e := TL.split_spl x (Str.ofString " ") (by decide) (TL.kind_ok (by decide +kernel))
  refine ⟨fun w hw c hc => h.2 c ((wd_len hw).2 c hc), ?_, fun z => ?_⟩
  · have q := spl_tot (S := TL.tl (Str.ofString " ")) (l := TL.tl x) (k := 0) (acc := [])
    rw [← e, List.map_map] at q
    have e2 : ((fun p : List Nat => p.length + 1) ∘ TL.tl) = fun y : Str => y.length + 1 := by
      funext y
      show (TL.tl y).length + 1 = _
      rw [← TL.len_tl]
    rw [e2] at q
    have h1 := h.1
    rw [TL.len_tl] at h1
    have q : tot (Txt.split x (Str.ofString " ")) ≤ [].length + (TL.tl x).length + 1 := q
    simp only [List.length_nil] at q
    omega
  · rw [z] at e
    exact spl_ne e.symm
theorem cutL0 {α : Type} (l : List α) (i : Nat) : cutL l none (some (i : Int)) = l.take i := by
  show (l.drop 0).take (HT.sIx l.length l.length (some (i : Int)) - 0) = _
  rw [HT.sIx_nat, List.drop_zero, Nat.sub_zero]
  by_cases h : i ≤ l.length
  · rw [Nat.min_eq_left h]
  · rw [Nat.min_eq_right (by omega), List.take_of_length_le (Nat.le_refl _), List.take_of_length_le (by omega)]
theorem cutL1 {α : Type} (l : List α) (i : Nat) : cutL l (some (i : Int)) none = l.drop i := by
  show (l.drop (HT.sIx l.length 0 (some (i : Int)))).take (l.length - HT.sIx l.length 0 (some (i : Int))) = _
  rw [HT.sIx_nat]
  by_cases h : i ≤ l.length
  · rw [Nat.min_eq_left h]
    exact List.take_of_length_le (by simp)
  · rw [Nat.min_eq_right (by omega), List.drop_of_length_le (Nat.le_refl _), List.drop_of_length_le (by omega)]
    simp

abbrev bB : Ss := fn4.body
theorem bB_eq : bB = .cons (sAt bB 0) (.cons (sAt bB 1) (.cons (sAt bB 2) (.cons (sAt bB 3) (.cons (sAt bB 4) (.cons (sAt bB 5) (.cons (sAt bB 6) (.cons (sAt bB 7) .nil))))))) := rfl
abbrev bR : Ss := .cons (sAt bB 3) (.cons (sAt bB 4) (.cons (sAt bB 5) (.cons (sAt bB 6) (.cons (sAt bB 7) .nil))))
abbrev bE (p : Nat) (x : Str) (W1 : List D) (w i j : Int) (sg : Str) : Env := [some (.r p), some (.d (.str x)), some (.d (.lst W1)), some (.d (.int w)), some (.d (.int i)), some (.d (.int j)), some (.d (.str sg))]
section
variable (n : Nat) (m : Mu) (p : Nat) (x sg : Str) (W1 A B C : List D) (i j : Int)
theorem b0_ok (y : Str) (h1 : slcD (.d (.lst W1)) none (some i) = some (.d (.lst A))) (h2 : slcD (.d (.lst W1)) (some (i + 1)) none = some (.d (.lst B))) (hl : A.length + B.length ≤ strTop) (h3 : smD .join (Str.ofString " ") [.d (.lst (A ++ B))] = some (.d (.str y))) : execs pg (lev pg (n + 2)) bR (bE p x W1 0 i j sg) m = .rt (.d (.str y)) m := by
  simp [sAt, bB, fn4, execs, exec, evI, seqI, seqD, forL, setT, ev, evs, evO, evC, evAnd, evOr, M.bind, M.ret, M.opt, Out.ofR, startE, tru, truth, isiD, ctOk, tyS, isiT, cmpD, eqE, fnEnd, lev_lo, datOf, bltD, binD, unD, Es.len, M.calm, methF, calF, asB, dund, dunName, isiX, aF0, aF1, aF2, aF3, aF4, aF5, aF6, aF7, aF8, aF9, aF10, aF11, aF12, aF13, aF14, aF15, aF16, aF17, aF18, aF19, aF20, aF21, aF22, aF23, aF24, aF25, aF26, aF27, aF28, aF29, aF30, aF31, aF32, aF33, aF34, aG8, aG16, aG20, aG22, aG24, aG25, aG26, aG27, aG28, aG29, aG30, aG31, aG33, aG35, aG37, aC0, aC1, aC2, aC3, aC4, aC5, aC6, aC7, aC8, aC9, aC10, aC11, aC12, aC13, aC14, aC15, aC16, aC17, aC18, aC19, aC20, aC21, aC22, aC23, aC24, aC25, aA0_25, aA0_24, aA0_23, aA0_22, aA0_21, aA0_20, aP0_19, aP0_18, aP0_17, aP0_16, aP0_14, aP0_15, aP0_13, aP0_26, aM0_0, aS0_12, aK0, strOf, optI, eqP_i, h1, h2, hl, h3]
theorem b1_ok (y z : Str) (h1 : slcD (.d (.lst W1)) none (some i) = some (.d (.lst A))) (h2 : slcD (.d (.lst W1)) (some i) none = some (.d (.lst B))) (hz : ∀ m, subD (.d (.lst W1)) (.d (.int i)) m = some (.d (.str z))) (hl : A.length + 1 ≤ strTop) (hl2 : A.length + (B.length + 1) ≤ strTop) (h3 : smD .join (Str.ofString " ") [.d (.lst (A ++ D.str z :: B))] = some (.d (.str y))) : execs pg (lev pg (n + 2)) bR (bE p x W1 1 i j sg) m = .rt (.d (.str y)) m := by
  have hl3 : A.length + 1 + B.length ≤ strTop := by omega
  simp [sAt, bB, fn4, execs, exec, evI, seqI, seqD, forL, setT, ev, evs, evO, evC, evAnd, evOr, M.bind, M.ret, M.opt, Out.ofR, startE, tru, truth, isiD, ctOk, tyS, isiT, cmpD, eqE, fnEnd, lev_lo, datOf, bltD, binD, unD, Es.len, M.calm, methF, calF, asB, dund, dunName, isiX, aF0, aF1, aF2, aF3, aF4, aF5, aF6, aF7, aF8, aF9, aF10, aF11, aF12, aF13, aF14, aF15, aF16, aF17, aF18, aF19, aF20, aF21, aF22, aF23, aF24, aF25, aF26, aF27, aF28, aF29, aF30, aF31, aF32, aF33, aF34, aG8, aG16, aG20, aG22, aG24, aG25, aG26, aG27, aG28, aG29, aG30, aG31, aG33, aG35, aG37, aC0, aC1, aC2, aC3, aC4, aC5, aC6, aC7, aC8, aC9, aC10, aC11, aC12, aC13, aC14, aC15, aC16, aC17, aC18, aC19, aC20, aC21, aC22, aC23, aC24, aC25, aA0_25, aA0_24, aA0_23, aA0_22, aA0_21, aA0_20, aP0_19, aP0_18, aP0_17, aP0_16, aP0_14, aP0_15, aP0_13, aP0_26, aM0_0, aS0_12, aK0, strOf, optI, eqP_i, h1, h2, hl, hl2, hl3, hz, h3]
theorem b2_ok (y : Str) (h1 : slcD (.d (.lst W1)) none (some i) = some (.d (.lst A))) (h2 : slcD (.d (.lst W1)) (some (i + 1)) none = some (.d (.lst B))) (hl : A.length + 1 ≤ strTop) (hl2 : A.length + (B.length + 1) ≤ strTop) (h3 : smD .join (Str.ofString " ") [.d (.lst (A ++ D.str sg :: B))] = some (.d (.str y))) : execs pg (lev pg (n + 2)) bR (bE p x W1 2 i j sg) m = .rt (.d (.str y)) m := by
  have hl3 : A.length + 1 + B.length ≤ strTop := by omega
  simp [sAt, bB, fn4, execs, exec, evI, seqI, seqD, forL, setT, ev, evs, evO, evC, evAnd, evOr, M.bind, M.ret, M.opt, Out.ofR, startE, tru, truth, isiD, ctOk, tyS, isiT, cmpD, eqE, fnEnd, lev_lo, datOf, bltD, binD, unD, Es.len, M.calm, methF, calF, asB, dund, dunName, isiX, aF0, aF1, aF2, aF3, aF4, aF5, aF6, aF7, aF8, aF9, aF10, aF11, aF12, aF13, aF14, aF15, aF16, aF17, aF18, aF19, aF20, aF21, aF22, aF23, aF24, aF25, aF26, aF27, aF28, aF29, aF30, aF31, aF32, aF33, aF34, aG8, aG16, aG20, aG22, aG24, aG25, aG26, aG27, aG28, aG29, aG30, aG31, aG33, aG35, aG37, aC0, aC1, aC2, aC3, aC4, aC5, aC6, aC7, aC8, aC9, aC10, aC11, aC12, aC13, aC14, aC15, aC16, aC17, aC18, aC19, aC20, aC21, aC22, aC23, aC24, aC25, aA0_25, aA0_24, aA0_23, aA0_22, aA0_21, aA0_20, aP0_19, aP0_18, aP0_17, aP0_16, aP0_14, aP0_15, aP0_13, aP0_26, aM0_0, aS0_12, aK0, strOf, optI, eqP_i, h1, h2, hl, hl2, hl3, h3]
theorem b3_ok (u v : Str) (h1 : slcD (.d (.str x)) none (some j) = some (.d (.str u))) (h2 : slcD (.d (.str x)) (some j) none = some (.d (.str v))) (hl : u.length + sg.length ≤ strTop) (hl2 : (u ++ sg).length + v.length ≤ strTop) : execs pg (lev pg (n + 2)) bR (bE p x W1 3 i j sg) m = .rt (.d (.str (u ++ sg ++ v))) m := by
  simp [sAt, bB, fn4, execs, exec, evI, seqI, seqD, forL, setT, ev, evs, evO, evC, evAnd, evOr, M.bind, M.ret, M.opt, Out.ofR, startE, tru, truth, isiD, ctOk, tyS, isiT, cmpD, eqE, fnEnd, lev_lo, datOf, bltD, binD, unD, Es.len, M.calm, methF, calF, asB, dund, dunName, isiX, aF0, aF1, aF2, aF3, aF4, aF5, aF6, aF7, aF8, aF9, aF10, aF11, aF12, aF13, aF14, aF15, aF16, aF17, aF18, aF19, aF20, aF21, aF22, aF23, aF24, aF25, aF26, aF27, aF28, aF29, aF30, aF31, aF32, aF33, aF34, aG8, aG16, aG20, aG22, aG24, aG25, aG26, aG27, aG28, aG29, aG30, aG31, aG33, aG35, aG37, aC0, aC1, aC2, aC3, aC4, aC5, aC6, aC7, aC8, aC9, aC10, aC11, aC12, aC13, aC14, aC15, aC16, aC17, aC18, aC19, aC20, aC21, aC22, aC23, aC24, aC25, aA0_25, aA0_24, aA0_23, aA0_22, aA0_21, aA0_20, aP0_19, aP0_18, aP0_17, aP0_16, aP0_14, aP0_15, aP0_13, aP0_26, aM0_0, aS0_12, aK0, strOf, optI, eqP_i, h1, h2, hl, hl2]
theorem b4_ok (u v : Str) (h1 : slcD (.d (.str x)) none (some j) = some (.d (.str u))) (h2 : slcD (.d (.str x)) (some (j + 1)) none = some (.d (.str v))) (hl : u.length + sg.length ≤ strTop) (hl2 : (u ++ sg).length + v.length ≤ strTop) : execs pg (lev pg (n + 2)) bR (bE p x W1 4 i j sg) m = .rt (.d (.str (u ++ sg ++ v))) m := by
  simp [sAt, bB, fn4, execs, exec, evI, seqI, seqD, forL, setT, ev, evs, evO, evC, evAnd, evOr, M.bind, M.ret, M.opt, Out.ofR, startE, tru, truth, isiD, ctOk, tyS, isiT, cmpD, eqE, fnEnd, lev_lo, datOf, bltD, binD, unD, Es.len, M.calm, methF, calF, asB, dund, dunName, isiX, aF0, aF1, aF2, aF3, aF4, aF5, aF6, aF7, aF8, aF9, aF10, aF11, aF12, aF13, aF14, aF15, aF16, aF17, aF18, aF19, aF20, aF21, aF22, aF23, aF24, aF25, aF26, aF27, aF28, aF29, aF30, aF31, aF32, aF33, aF34, aG8, aG16, aG20, aG22, aG24, aG25, aG26, aG27, aG28, aG29, aG30, aG31, aG33, aG35, aG37, aC0, aC1, aC2, aC3, aC4, aC5, aC6, aC7, aC8, aC9, aC10, aC11, aC12, aC13, aC14, aC15, aC16, aC17, aC18, aC19, aC20, aC21, aC22, aC23, aC24, aC25, aA0_25, aA0_24, aA0_23, aA0_22, aA0_21, aA0_20, aP0_19, aP0_18, aP0_17, aP0_16, aP0_14, aP0_15, aP0_13, aP0_26, aM0_0, aS0_12, aK0, strOf, optI, eqP_i, h1, h2, hl, hl2]
theorem b5_ok (u v : Str) (h1 : slcD (.d (.str x)) none (some j) = some (.d (.str u))) (h2 : slcD (.d (.str x)) (some (j + 1)) none = some (.d (.str v))) (hl : u.length + v.length ≤ strTop) : execs pg (lev pg (n + 2)) bR (bE p x W1 5 i j sg) m = .rt (.d (.str (u ++ v))) m := by
  simp [sAt, bB, fn4, execs, exec, evI, seqI, seqD, forL, setT, ev, evs, evO, evC, evAnd, evOr, M.bind, M.ret, M.opt, Out.ofR, startE, tru, truth, isiD, ctOk, tyS, isiT, cmpD, eqE, fnEnd, lev_lo, datOf, bltD, binD, unD, Es.len, M.calm, methF, calF, asB, dund, dunName, isiX, aF0, aF1, aF2, aF3, aF4, aF5, aF6, aF7, aF8, aF9, aF10, aF11, aF12, aF13, aF14, aF15, aF16, aF17, aF18, aF19, aF20, aF21, aF22, aF23, aF24, aF25, aF26, aF27, aF28, aF29, aF30, aF31, aF32, aF33, aF34, aG8, aG16, aG20, aG22, aG24, aG25, aG26, aG27, aG28, aG29, aG30, aG31, aG33, aG35, aG37, aC0, aC1, aC2, aC3, aC4, aC5, aC6, aC7, aC8, aC9, aC10, aC11, aC12, aC13, aC14, aC15, aC16, aC17, aC18, aC19, aC20, aC21, aC22, aC23, aC24, aC25, aA0_25, aA0_24, aA0_23, aA0_22, aA0_21, aA0_20, aP0_19, aP0_18, aP0_17, aP0_16, aP0_14, aP0_15, aP0_13, aP0_26, aM0_0, aS0_12, aK0, strOf, optI, eqP_i, h1, h2, hl]
theorem b6_ok (m' : Mu) (v : Str) (h1 : (lev pg (n + 2)).hi 9 [.r p, .d (.lst [.str (Str.ofString " back"), .str (Str.ofString " "), .str (Str.ofString " 0"), .str (Str.ofString " up")])] m = .ok (.d (.str v)) m') (hl : x.length + v.length ≤ strTop) : execs pg (lev pg (n + 2)) bR (bE p x W1 6 i j sg) m = .rt (.d (.str (x ++ v))) m' := by
  simp [sAt, bB, fn4, execs, exec, evI, seqI, seqD, forL, setT, ev, evs, evO, evC, evAnd, evOr, M.bind, M.ret, M.opt, Out.ofR, startE, tru, truth, isiD, ctOk, tyS, isiT, cmpD, eqE, fnEnd, lev_lo, datOf, bltD, binD, unD, Es.len, M.calm, methF, calF, asB, dund, dunName, isiX, aF0, aF1, aF2, aF3, aF4, aF5, aF6, aF7, aF8, aF9, aF10, aF11, aF12, aF13, aF14, aF15, aF16, aF17, aF18, aF19, aF20, aF21, aF22, aF23, aF24, aF25, aF26, aF27, aF28, aF29, aF30, aF31, aF32, aF33, aF34, aG8, aG16, aG20, aG22, aG24, aG25, aG26, aG27, aG28, aG29, aG30, aG31, aG33, aG35, aG37, aC0, aC1, aC2, aC3, aC4, aC5, aC6, aC7, aC8, aC9, aC10, aC11, aC12, aC13, aC14, aC15, aC16, aC17, aC18, aC19, aC20, aC21, aC22, aC23, aC24, aC25, aA0_25, aA0_24, aA0_23, aA0_22, aA0_21, aA0_20, aP0_19, aP0_18, aP0_17, aP0_16, aP0_14, aP0_15, aP0_13, aP0_26, aM0_0, aS0_12, aK0, strOf, optI, eqP_i, h1, hl]
end
theorem as_of (s : Str) (h : (decide (s.length ≤ 5) && (TL.tl s).all fun c => decide (c < 128) && decide (c ≠ 10)) = true) : As s 5 := by
  obtain ⟨h1, h2⟩ := Bool.and_eq_true_iff.mp h
  refine ⟨of_decide_eq_true h1, fun c hc => ?_⟩
  obtain ⟨h3, h4⟩ := Bool.and_eq_true_iff.mp (List.all_eq_true.mp h2 c hc)
  exact ⟨of_decide_eq_true h3, of_decide_eq_true h4⟩
theorem bent_ok (n : Nat) (m : Mu) (p : Nat) (K : Int) (y : MO) (x : Str) (L : Nat) (hp : p < m.length) (hv : PotV y K) (hK : K + 10 < 2 ^ 40) (hx : As x L) (hL : L ≤ 1000) :
    ∃ x' z, (lev pg (n + 3)).hi 4 [.r p, .d (.str x)] (m.set p y) = .ok (.d (.str x')) (m.set p z) ∧ As x' (2 * L + 10) ∧ PotV z (K + 5) := by
  have p200 : (2 : Int) ^ 200 = 1606938044258990275541962092341162602522202993782792835301376 := by decide
  have st : strTop = 4000000 := rfl
  obtain ⟨hw1, hw2, hw3⟩ := split_as hx
  have sp : ((Str.ofString " ").length != 0 && (Str.ofString " ").cps.all (· < 256)) = true := by decide +kernel
  have hlx := hx.1
  generalize hws : Txt.split x (Str.ofString " ") = ws at *
  have hwl := tot_len ws
  have hpos : 0 < ws.length := List.length_pos_iff.mpr hw3
  obtain ⟨w, y1, e1, w0, w1, v1⟩ := take2 (n + 1) m p K 7 y hp hv (by omega) (by omega) (by omega)
  have q0 : exec pg (lev pg (n + 2)) (sAt bB 0) [some (.r p), some (.d (.str x)), none, none, none, none, none] (m.set p y) = .nx [some (.r p), some (.d (.str x)), some (.d (.lst (ws.map D.str))), some (.d (.int w)), none, none, none] (m.set p y1) := by
    simp [sAt, bB, fn4, execs, exec, evI, seqI, seqD, forL, setT, ev, evs, evO, evC, evAnd, evOr, M.bind, M.ret, M.opt, Out.ofR, startE, tru, truth, isiD, ctOk, tyS, isiT, cmpD, eqE, fnEnd, lev_lo, datOf, bltD, binD, unD, Es.len, M.calm, methF, calF, asB, dund, dunName, isiX, aF0, aF1, aF2, aF3, aF4, aF5, aF6, aF7, aF8, aF9, aF10, aF11, aF12, aF13, aF14, aF15, aF16, aF17, aF18, aF19, aF20, aF21, aF22, aF23, aF24, aF25, aF26, aF27, aF28, aF29, aF30, aF31, aF32, aF33, aF34, aG8, aG16, aG20, aG22, aG24, aG25, aG26, aG27, aG28, aG29, aG30, aG31, aG33, aG35, aG37, aC0, aC1, aC2, aC3, aC4, aC5, aC6, aC7, aC8, aC9, aC10, aC11, aC12, aC13, aC14, aC15, aC16, aC17, aC18, aC19, aC20, aC21, aC22, aC23, aC24, aC25, aA0_25, aA0_24, aA0_23, aA0_22, aA0_21, aA0_20, aP0_19, aP0_18, aP0_17, aP0_16, aP0_14, aP0_15, aP0_13, aP0_26, aM0_0, aS0_12, aK0, strOf, smD, sp, hws, e1]
  obtain ⟨i, y2, e2, i0, i1, v2⟩ := take2 (n + 1) m p _ (ws.length : Int) y1 hp v1 (by omega) (by omega) (by omega)
  obtain ⟨j, y3, e3, j0, j1, v3⟩ := take2 (n + 1) m p _ ((x.length : Int) + 1) y2 hp v2 (by omega) (by omega) (by omega)
  have q1 : exec pg (lev pg (n + 2)) (sAt bB 1) [some (.r p), some (.d (.str x)), some (.d (.lst (ws.map D.str))), some (.d (.int w)), none, none, none] (m.set p y1) = .nx [some (.r p), some (.d (.str x)), some (.d (.lst (ws.map D.str))), some (.d (.int w)), some (.d (.int i)), some (.d (.int j)), none] (m.set p y3) := by
    simp [sAt, bB, fn4, execs, exec, evI, seqI, seqD, forL, setT, ev, evs, evO, evC, evAnd, evOr, M.bind, M.ret, M.opt, Out.ofR, startE, tru, truth, isiD, ctOk, tyS, isiT, cmpD, eqE, fnEnd, lev_lo, datOf, bltD, binD, unD, Es.len, M.calm, methF, calF, asB, dund, dunName, isiX, aF0, aF1, aF2, aF3, aF4, aF5, aF6, aF7, aF8, aF9, aF10, aF11, aF12, aF13, aF14, aF15, aF16, aF17, aF18, aF19, aF20, aF21, aF22, aF23, aF24, aF25, aF26, aF27, aF28, aF29, aF30, aF31, aF32, aF33, aF34, aG8, aG16, aG20, aG22, aG24, aG25, aG26, aG27, aG28, aG29, aG30, aG31, aG33, aG35, aG37, aC0, aC1, aC2, aC3, aC4, aC5, aC6, aC7, aC8, aC9, aC10, aC11, aC12, aC13, aC14, aC15, aC16, aC17, aC18, aC19, aC20, aC21, aC22, aC23, aC24, aC25, aA0_25, aA0_24, aA0_23, aA0_22, aA0_21, aA0_20, aP0_19, aP0_18, aP0_17, aP0_16, aP0_14, aP0_15, aP0_13, aP0_26, aM0_0, aS0_12, aK0, seqOf, e2, e3]
  obtain ⟨sd, y4, e4, hs, v4⟩ := of2 n m p _ y3 [.str (Str.ofString "0"), .str (Str.ofString "1"), .str (Str.ofString "9"), .str (Str.ofString "-"), .str (Str.ofString " "), .str (Str.ofString "a"), .str (Str.ofString "+"), .str (Str.ofString "_"), .str (Str.ofString "up"), .str (Str.ofString "back"), .str (Str.ofString "A")] hp v3 (by omega) (by decide) (by decide)
  obtain ⟨sg, rfl, hg⟩ : ∃ sg, sd = .str sg ∧ As sg 5 := by
    simp only [List.mem_cons, List.not_mem_nil, or_false] at hs
    rcases hs with rfl | rfl | rfl | rfl | rfl | rfl | rfl | rfl | rfl | rfl | rfl <;> exact ⟨_, rfl, as_of _ (by decide)⟩
  have q2 : exec pg (lev pg (n + 2)) (sAt bB 2) [some (.r p), some (.d (.str x)), some (.d (.lst (ws.map D.str))), some (.d (.int w)), some (.d (.int i)), some (.d (.int j)), none] (m.set p y3) = .nx (bE p x (ws.map D.str) w i j sg) (m.set p y4) := by
    simp [sAt, bB, fn4, execs, exec, evI, seqI, seqD, forL, setT, ev, evs, evO, evC, evAnd, evOr, M.bind, M.ret, M.opt, Out.ofR, startE, tru, truth, isiD, ctOk, tyS, isiT, cmpD, eqE, fnEnd, lev_lo, datOf, bltD, binD, unD, Es.len, M.calm, methF, calF, asB, dund, dunName, isiX, aF0, aF1, aF2, aF3, aF4, aF5, aF6, aF7, aF8, aF9, aF10, aF11, aF12, aF13, aF14, aF15, aF16, aF17, aF18, aF19, aF20, aF21, aF22, aF23, aF24, aF25, aF26, aF27, aF28, aF29, aF30, aF31, aF32, aF33, aF34, aG8, aG16, aG20, aG22, aG24, aG25, aG26, aG27, aG28, aG29, aG30, aG31, aG33, aG35, aG37, aC0, aC1, aC2, aC3, aC4, aC5, aC6, aC7, aC8, aC9, aC10, aC11, aC12, aC13, aC14, aC15, aC16, aC17, aC18, aC19, aC20, aC21, aC22, aC23, aC24, aC25, aA0_25, aA0_24, aA0_23, aA0_22, aA0_21, aA0_20, aP0_19, aP0_18, aP0_17, aP0_16, aP0_14, aP0_15, aP0_13, aP0_26, aM0_0, aS0_12, aK0, e4]
  have fin : ∀ (x' : Str) (z : MO), execs pg (lev pg (n + 2)) bR (bE p x (ws.map D.str) w i j sg) (m.set p y4) = .rt (.d (.str x')) (m.set p z) → (lev pg (n + 3)).hi 4 [.r p, .d (.str x)] (m.set p y) = .ok (.d (.str x')) (m.set p z) := fun x' z h => by
    have qa : execs pg (lev pg (n + 2)) bB [some (.r p), some (.d (.str x)), none, none, none, none, none] (m.set p y) = .rt (.d (.str x')) (m.set p z) := by
      rw [bB_eq, xs_cons _ _ _ _ _ _ _ _ q0, xs_cons _ _ _ _ _ _ _ _ q1, xs_cons _ _ _ _ _ _ _ _ q2]
      exact h
    rw [lev_hi]
    unfold runFn
    rw [aF4]
    have s3 : startE fn4.ns [W.r p, W.d (.str x)] = [some (.r p), some (.d (.str x)), none, none, none, none, none] := rfl
    simp only [s3]
    show (if 2 = fn4.np then (match execs pg (lev pg (n + 2)) bB _ _ with | .nx _ m1 => _ | .rt w m1 => _ | .ex c x _ m1 => _ | _ => _) else _) = _
    rw [qa]
    simp [fn4, fnEnd]
  obtain ⟨I, rfl⟩ : ∃ I : Nat, i = (I : Int) := ⟨i.toNat, by omega⟩
  obtain ⟨J, rfl⟩ : ∃ J : Nat, j = (J : Int) := ⟨j.toNat, by omega⟩
  have hI : I < ws.length := by omega
  have c0 : slcD (.d (.lst (ws.map D.str))) none (some (I : Int)) = some (.d (.lst ((ws.take I).map D.str))) := by
    show some (W.d (D.lst (cutL (ws.map D.str) none (some (I : Int))))) = _
    rw [cutL0, List.map_take]
  have c1 : slcD (.d (.lst (ws.map D.str))) (some ((I : Int) + 1)) none = some (.d (.lst ((ws.drop (I + 1)).map D.str))) := by
    show some (W.d (D.lst (cutL (ws.map D.str) (some (((I + 1 : Nat)) : Int)) none))) = _
    rw [cutL1, List.map_drop]
  have c2 : slcD (.d (.lst (ws.map D.str))) (some (I : Int)) none = some (.d (.lst ((ws.drop I).map D.str))) := by
    show some (W.d (D.lst (cutL (ws.map D.str) (some (I : Int)) none))) = _
    rw [cutL1, List.map_drop]
  have t1 : tot (ws.take I) + tot (ws.drop I) = tot ws := by rw [← tot_app, List.take_append_drop]
  have hd : ws.drop I = ws[I] :: ws.drop (I + 1) := List.drop_eq_getElem_cons hI
  have t2 : tot (ws.drop I) = ws[I].length + 1 + tot (ws.drop (I + 1)) := by
    rw [hd]
    unfold tot
    rw [List.map_cons, List.sum_cons]
  have lt0 := tot_len (ws.take I)
  have lt1 := tot_len (ws.drop I)
  have lt2 := tot_len (ws.drop (I + 1))
  have g0 : ∀ y ∈ ws.take I, ∀ c ∈ TL.tl y, Gc c := fun y hy => hw1 y (List.mem_of_mem_take hy)
  have g1 : ∀ y ∈ ws.drop (I + 1), ∀ c ∈ TL.tl y, Gc c := fun y hy => hw1 y (List.mem_of_mem_drop hy)
  have g2 : ∀ y ∈ ws.drop I, ∀ c ∈ TL.tl y, Gc c := fun y hy => hw1 y (List.mem_of_mem_drop hy)
  have g3 : ∀ c ∈ TL.tl ws[I], Gc c := hw1 _ (List.getElem_mem hI)
  have d0 : slcD (.d (.str x)) none (some (J : Int)) = some (.d (.str (L2.cutS x none (some (J : Int))))) := rfl
  have d1 : slcD (.d (.str x)) (some (J : Int)) none = some (.d (.str (L2.cutS x (some (J : Int)) none))) := rfl
  have d2 : slcD (.d (.str x)) (some ((J : Int) + 1)) none = some (.d (.str (L2.cutS x (some ((J + 1 : Nat) : Int)) none))) := rfl
  have a0 := hx.cut0 J
  have a1 := hx.cut1 J
  have a2 := hx.cut1 (J + 1)
  have l0 := a0.1
  have l1 := a1.1
  have l2 := a2.1
  have l3 := hg.1
  have hwv : w = 0 ∨ w = 1 ∨ w = 2 ∨ w = 3 ∨ w = 4 ∨ w = 5 ∨ w = 6 := by omega
  rcases hwv with rfl | rfl | rfl | rfl | rfl | rfl | rfl
  · have tt : tot (ws.take I ++ ws.drop (I + 1)) ≤ 2 * L + 10 := by rw [tot_app]; omega
    refine ⟨_, y4, fin _ _ (b0_ok n _ p x sg _ _ _ _ _ (Txt.join (Str.ofString " ") (ws.take I ++ ws.drop (I + 1))) c0 c1 (by rw [List.length_map, List.length_map]; omega) ?_), join_as (fun y hy => ?_) tt, v4.le (by omega)⟩
    · rw [← List.map_append]
      exact sm_join (by omega)
    · rcases List.mem_append.mp hy with h | h
      · exact g0 y h
      · exact g1 y h
  · have tt : tot (ws.take I ++ ws[I] :: ws.drop I) ≤ 2 * L + 10 := by
      rw [tot_app]
      have : tot (ws[I] :: ws.drop I) = ws[I].length + 1 + tot (ws.drop I) := by simp [tot]
      omega
    refine ⟨_, y4, fin _ _ (b1_ok n _ p x sg _ _ _ _ _ (Txt.join (Str.ofString " ") (ws.take I ++ ws[I] :: ws.drop I)) ws[I] c0 c2 (fun m' => ?_) (by rw [List.length_map]; omega) (by rw [List.length_map, List.length_map]; omega) ?_), join_as (fun y hy => ?_) tt, v4.le (by omega)⟩
    · have ix1 : L2.ixN ((ws.map D.str).map W.d).length (I : Int) = some I := by
        unfold L2.ixN
        rw [if_pos (by omega), if_pos (by simp; omega)]
        rfl
      show (L2.ixN ((ws.map D.str).map W.d).length (I : Int)).bind (fun j => ((ws.map D.str).map W.d)[j]?) = _
      rw [ix1]
      simp [hI]
    · rw [← List.map_cons (f := D.str), ← List.map_append]
      exact sm_join (by omega)
    · rcases List.mem_append.mp hy with h | h
      · exact g0 y h
      · rcases List.mem_cons.mp h with rfl | h
        · exact g3
        · exact g2 y h
  · have tt : tot (ws.take I ++ sg :: ws.drop (I + 1)) ≤ 2 * L + 10 := by
      rw [tot_app]
      have : tot (sg :: ws.drop (I + 1)) = sg.length + 1 + tot (ws.drop (I + 1)) := by simp [tot]
      omega
    refine ⟨_, y4, fin _ _ (b2_ok n _ p x sg _ _ _ _ _ (Txt.join (Str.ofString " ") (ws.take I ++ sg :: ws.drop (I + 1))) c0 c1 (by rw [List.length_map]; omega) (by rw [List.length_map, List.length_map]; omega) ?_), join_as (fun y hy => ?_) tt, v4.le (by omega)⟩
    · rw [← List.map_cons (f := D.str), ← List.map_append]
      exact sm_join (by omega)
    · rcases List.mem_append.mp hy with h | h
      · exact g0 y h
      · rcases List.mem_cons.mp h with rfl | h
        · exact hg.2
        · exact g1 y h
  · exact ⟨_, y4, fin _ _ (b3_ok n _ p x sg _ _ _ _ _ d0 d1 (by omega) (by rw [len_app]; omega)), ((a0.app hg).app a1).le (by omega), v4.le (by omega)⟩
  · exact ⟨_, y4, fin _ _ (b4_ok n _ p x sg _ _ _ _ _ d0 d2 (by omega) (by rw [len_app]; omega)), ((a0.app hg).app a2).le (by omega), v4.le (by omega)⟩
  · exact ⟨_, y4, fin _ _ (b5_ok n _ p x sg _ _ _ _ _ d0 d2 (by omega)), (a0.app a2).le (by omega), v4.le (by omega)⟩
  · obtain ⟨vd, y5, e5, h5, v5⟩ := of2 n m p _ y4 [.str (Str.ofString " back"), .str (Str.ofString " "), .str (Str.ofString " 0"), .str (Str.ofString " up")] hp v4 (by omega) (by decide) (by decide)
    obtain ⟨v, rfl, hv5⟩ : ∃ v, vd = .str v ∧ As v 5 := by
      simp only [List.mem_cons, List.not_mem_nil, or_false] at h5
      rcases h5 with rfl | rfl | rfl | rfl <;> exact ⟨_, rfl, as_of _ (by decide)⟩
    have l5 := hv5.1
    exact ⟨_, y5, fin _ _ (b6_ok n _ p x sg _ _ _ _ v e5 (by omega)), (hx.app hv5).le (by omega), v5.le (by omega)⟩

/-! ### short lines, texts of rows -/
theorem occ_no {x : Str} (h : 10 ∉ TL.tl x) : (Builtin.Str.occurrences x (Str.ofString "\n") 0 x.length (x.length + 1)).isEmpty = true := by
  obtain ⟨f, hc⟩ := PySem.StrLaws.occ_chain x (Str.ofString "\n") (x.length + 1)
  generalize Builtin.Str.occurrences x (Str.ofString "\n") 0 x.length (x.length + 1) = l at *
  cases l with
  | nil => rfl
  | cons c r =>
    exfalso
    have ha := hc.2.1
    have hy : TL.tl (Str.ofString "\n") = [10] := by decide
    have q := (TL.at_iff (x := x) (y := Str.ofString "\n") (by rw [hy]; simp) c).mp ha
    rw [hy] at q
    cases hd : (TL.tl x).drop c with
    | nil => rw [hd] at q; simp [TL.pre] at q
    | cons d r' =>
      rw [hd] at q
      have e : d = 10 := by simpa [TL.pre] using q
      subst e
      exact h (List.mem_of_mem_drop (by rw [hd]; exact List.mem_cons_self))
abbrev shI : It := .seq (.sm .split (.sm .rpl (.var 0) (.cons (.cst (.str (Str.ofString "\n"))) (.cons (.cst (.str (Str.ofString " "))) .nil))) (.cons (.cst (.str (Str.ofString " "))) .nil))
abbrev shE : E := .blt .all (.cons (.lc (.cmp .Lt (.blt .len (.cons (.var 1) .nil)) (.cst (.int 41))) (.nm 1) shI .no [1]) .nil)
theorem shB_eq : fn7.body = .cons (.ret shE) .nil := rfl
theorem short_ok (n : Nat) (m : Mu) (hm : Wf m) (x : Str) (L : Nat) (hx : As x L) (hL : L ≤ 900) : ∃ b, (lev pg (n + 1)).hi 7 [.d (.str x)] m = .ok (.d (.bl b)) m := by
  obtain ⟨h1, h2, h3⟩ := split_as hx
  have hr := occ_no (x := x) fun z => (hx.2 10 z).2 rfl
  have sp : ((Str.ofString " ").length != 0 && (Str.ofString " ").cps.all (· < 256)) = true := by decide +kernel
  have tl := tot_len (Txt.split x (Str.ofString " "))
  have ei : evI pg (lev pg n) shI [some (.d (.str x)), none] m = .ok (((Txt.split x (Str.ofString " ")).map D.str).map W.d) m := by
    simp [execs, exec, evI, seqI, seqD, forL, setT, ev, evs, evO, evC, evAnd, evOr, M.bind, M.ret, M.opt, Out.ofR, startE, tru, truth, isiD, ctOk, tyS, isiT, cmpD, eqE, fnEnd, lev_lo, datOf, bltD, binD, unD, Es.len, M.calm, methF, calF, asB, dund, dunName, isiX, aF0, aF1, aF2, aF3, aF4, aF5, aF6, aF7, aF8, aF9, aF10, aF11, aF12, aF13, aF14, aF15, aF16, aF17, aF18, aF19, aF20, aF21, aF22, aF23, aF24, aF25, aF26, aF27, aF28, aF29, aF30, aF31, aF32, aF33, aF34, aG8, aG16, aG20, aG22, aG24, aG25, aG26, aG27, aG28, aG29, aG30, aG31, aG33, aG35, aG37, aC0, aC1, aC2, aC3, aC4, aC5, aC6, aC7, aC8, aC9, aC10, aC11, aC12, aC13, aC14, aC15, aC16, aC17, aC18, aC19, aC20, aC21, aC22, aC23, aC24, aC25, aA0_25, aA0_24, aA0_23, aA0_22, aA0_21, aA0_20, aP0_19, aP0_18, aP0_17, aP0_16, aP0_14, aP0_15, aP0_13, aP0_26, aM0_0, aS0_12, aK0, strOf, smD, sp, hr, seqOf]
  have e1 := all_lcB (P := pg) (C := lev pg n) (el := .cmp .Lt (.blt .len (.cons (.var 1) .nil)) (.cst (.int 41))) (t := .nm 1) (i := shI) (own := [1]) (e := [some (.d (.str x)), none]) (m := m) (m' := m) (ws := ((Txt.split x (Str.ofString " ")).map D.str).map W.d) (fun w => match w with | .d (.str y) => decide ((y.length : Int) < 41) | _ => false) hm ei (by simp; omega) (fun w hw acc => by
    obtain ⟨z, hz, rfl⟩ := List.mem_map.mp hw
    obtain ⟨y, hy, rfl⟩ := List.mem_map.mp hz
    simp [lcF, wipeE, datM, execs, exec, evI, seqI, seqD, forL, setT, ev, evs, evO, evC, evAnd, evOr, M.bind, M.ret, M.opt, Out.ofR, startE, tru, truth, isiD, ctOk, tyS, isiT, cmpD, eqE, fnEnd, lev_lo, datOf, bltD, binD, unD, Es.len, M.calm, methF, calF, asB, dund, dunName, isiX, aF0, aF1, aF2, aF3, aF4, aF5, aF6, aF7, aF8, aF9, aF10, aF11, aF12, aF13, aF14, aF15, aF16, aF17, aF18, aF19, aF20, aF21, aF22, aF23, aF24, aF25, aF26, aF27, aF28, aF29, aF30, aF31, aF32, aF33, aF34, aG8, aG16, aG20, aG22, aG24, aG25, aG26, aG27, aG28, aG29, aG30, aG31, aG33, aG35, aG37, aC0, aC1, aC2, aC3, aC4, aC5, aC6, aC7, aC8, aC9, aC10, aC11, aC12, aC13, aC14, aC15, aC16, aC17, aC18, aC19, aC20, aC21, aC22, aC23, aC24, aC25, aA0_25, aA0_24, aA0_23, aA0_22, aA0_21, aA0_20, aP0_19, aP0_18, aP0_17, aP0_16, aP0_14, aP0_15, aP0_13, aP0_26, aM0_0, aS0_12, aK0])
  obtain ⟨b, e1⟩ : ∃ b, ev pg (lev pg n) shE [some (.d (.str x)), none] m = .ok (.d (.bl b)) m := ⟨_, e1⟩
  refine ⟨b, ?_⟩
  rw [lev_hi]
  unfold runFn
  rw [aF7]
  have s3 : startE fn7.ns [W.d (.str x)] = [some (.d (.str x)), none] := rfl
  simp only [s3]
  rw [shB_eq]
  simp only [execs, exec, e1]
  simp [fn7, fnEnd, Out.ofR]
theorem textof_ok (n : Nat) (m : Mu) (f s l a : Int) (d b : Bool) (hf : Lo f) (hs : Lo s) (hl : Lo l) (ha : Lo a) : (lev pg (n + 1)).hi 11 [.d (rowD f s l a d b)] m = .ok (.d (.str (txtD f s l a d b))) m := by
  have j := txt_join f s l a d b hf hs hl ha
  have g1 := hf.sm
  have g2 := hs.sm
  have g3 := hl.sm
  have g4 := ha.sm
  rw [lev_hi]
  unfold txtD
  unfold txtW at j ⊢
  cases b <;> cases d <;> simp [wy, nTx] at j ⊢ <;> simp [runFn, fn11, execs, exec, evI, seqI, seqD, forL, setT, ev, evs, evO, evC, evAnd, evOr, M.bind, M.ret, M.opt, Out.ofR, startE, tru, truth, isiD, ctOk, tyS, isiT, cmpD, eqE, fnEnd, lev_lo, datOf, bltD, binD, unD, Es.len, M.calm, methF, calF, asB, dund, dunName, isiX, aF0, aF1, aF2, aF3, aF4, aF5, aF6, aF7, aF8, aF9, aF10, aF11, aF12, aF13, aF14, aF15, aF16, aF17, aF18, aF19, aF20, aF21, aF22, aF23, aF24, aF25, aF26, aF27, aF28, aF29, aF30, aF31, aF32, aF33, aF34, aG8, aG16, aG20, aG22, aG24, aG25, aG26, aG27, aG28, aG29, aG30, aG31, aG33, aG35, aG37, aC0, aC1, aC2, aC3, aC4, aC5, aC6, aC7, aC8, aC9, aC10, aC11, aC12, aC13, aC14, aC15, aC16, aC17, aC18, aC19, aC20, aC21, aC22, aC23, aC24, aC25, aA0_25, aA0_24, aA0_23, aA0_22, aA0_21, aA0_20, aP0_19, aP0_18, aP0_17, aP0_16, aP0_14, aP0_15, aP0_13, aP0_26, aM0_0, aS0_12, aK0, seqOf, subD, L2.ixN, g1, g2, g3, g4, strOf, smD, allS, strTop, j]
theorem nTx_lenk {i : Int} {k : Nat} (hk : 0 < k) (h : i.natAbs < 10 ^ k) : (nTx i).length ≤ k + 1 := by
  rw [TL.len_tl, tl_nTx]
  have := TL.numL_len (n := i.natAbs) (k := k) hk h
  split <;> simp <;> omega
theorem nTx_as {i : Int} {k : Nat} (hk : 0 < k) (h : i.natAbs < 10 ^ k) : As (nTx i) (k + 1) := ⟨nTx_lenk hk h, fun c hc => ⟨Nat.lt_trans (nTx_cp c hc) (by decide), fun z => nTx_free (i := i) (c := 10) (by decide) (.inl (by decide)) (z ▸ hc)⟩⟩
theorem txt_as (f s l a : Int) (d b : Bool) (k : Nat) (hk : 0 < k) (hf : f.natAbs < 10 ^ k) (hs : s.natAbs < 10 ^ k) (hl : l.natAbs < 10 ^ k) (ha : a.natAbs < 10 ^ 36) : As (txtD f s l a d b) (3 * k + 60) := by
  have a1 := nTx_as hk hf
  have a2 := nTx_as hk hs
  have a3 := nTx_as hk hl
  have a4 := nTx_as (k := 36) (by decide) ha
  have a5 : As (wy d) 5 := by cases d <;> exact as_of _ (by decide)
  have a6 : As (Str.ofString "back") 5 := as_of _ (by decide)
  refine join_as (fun y hy => ?_) ?_
  · unfold txtW at hy
    cases b <;> simp only [Bool.false_eq_true, if_false, if_true, List.append_nil, List.mem_append, List.mem_cons, List.not_mem_nil, or_false] at hy
    · rcases hy with rfl | rfl | rfl | rfl | rfl <;> first | exact a1.2 | exact a2.2 | exact a3.2 | exact a4.2 | exact a5.2
    · rcases hy with (rfl | rfl | rfl | rfl | rfl) | rfl <;> first | exact a1.2 | exact a2.2 | exact a3.2 | exact a4.2 | exact a5.2 | exact a6.2
  · have b1 := a1.1
    have b2 := a2.1
    have b3 := a3.1
    have b4 := a4.1
    have b5 := a5.1
    have b6 := a6.1
    unfold txtW
    rw [tot_app]
    have t1 : tot [nTx f, nTx s, nTx l, wy d, nTx a] = (nTx f).length + 1 + ((nTx s).length + 1 + ((nTx l).length + 1 + ((wy d).length + 1 + ((nTx a).length + 1)))) := by
      unfold tot
      rw [List.map_cons, List.sum_cons, List.map_cons, List.sum_cons, List.map_cons, List.sum_cons, List.map_cons, List.sum_cons, List.map_cons, List.sum_cons, List.map_nil, List.sum_nil]
      rfl
    have t2 : tot (if b then [Str.ofString "back"] else []) ≤ 6 := by
      cases b
      · decide
      · rw [if_pos rfl, tot_one]; omega
    omega
theorem up_small : ((List.range 128).all fun c => (Unicode.upperOf c).all fun z => decide (z < 16 ^ 8)) = true := by decide +kernel
theorem upper_ok {x : Str} {L : Nat} (hx : As x L) (hL : L ≤ 160) : Tx (Txt.upper x) ∧ sOkB (Txt.upper x) = true := by
  have h1 := PyProof.Rows.len_upper x
  have h2 := hx.1
  have h3 : ∀ c ∈ TL.tl (Txt.upper x), c < 16 ^ 8 := fun c hc => by
    have hc : c ∈ ((x.cps.mapIdx fun i c => (Unicode.upperOf c).toArray).flatten).toList := hc
    rw [Array.toList_flatten] at hc
    obtain ⟨q, hq, hc⟩ := List.mem_flatten.mp hc
    obtain ⟨r, hr, rfl⟩ := List.mem_map.mp hq
    simp only [Array.toList_mapIdx] at hr
    obtain ⟨i, hi, rfl⟩ := List.mem_mapIdx.mp hr
    have hm : x.cps.toList[i] ∈ TL.tl x := List.getElem_mem hi
    have hlt := (hx.2 _ hm).1
    have z := List.all_eq_true.mp up_small _ (List.mem_range.mpr hlt)
    exact of_decide_eq_true (List.all_eq_true.mp z c (by simpa using hc))
  exact ⟨⟨by omega, h3⟩, Bool.and_eq_true_iff.mpr ⟨decide_eq_true (by simp only [strTop]; omega), List.all_eq_true.mpr fun c hc => decide_eq_true (h3 c hc)⟩⟩

/-! ### one turn of the law -/
abbrev rBd : Ss := fn3.body
abbrev rdI : It := .seq (.bin .Add (.var 7) (.lst (.cons (.call 5 (.cons (.var 0) .nil) [] .nil) (.cons (.cst .non) (.cons (.cst (.int 0)) (.cons (.lst (.cons (.var 4) .nil)) (.cons (.sm .upp (.var 4) .nil) .nil)))))))
abbrev rdE : E := .blt .all (.cons (.lc (.call 4 (.cons (.var 6) .nil) [] .nil) (.nm 6) rdI .no [6]) .nil)
theorem rBd_eq : rBd = .cons (sAt rBd 0) (.cons (sAt rBd 1) (.cons (sAt rBd 2) (.cons (sAt rBd 3) (.cons (sAt rBd 4) (.cons (.fo (.nm 5) (.rng1 (.cst (.int 12))) (foB (sAt rBd 5))) (.cons (sAt rBd 6) (.cons (sAt rBd 7) (.cons (sAt rBd 8) (.cons (.ret rdE) .nil))))))))) := rfl
abbrev lBd : Ss := foB (sAt rBd 5)
theorem lBd_eq : lBd = .cons (sAt lBd 0) (.cons (sAt lBd 1) (.cons (sAt lBd 2) .nil)) := rfl
theorem lap_ok (n : Nat) (m : Mu) (hm : Wf m) (p : Nat) (hp : p < m.length) (K : Int) (y : MO) (hv : PotV y K) (hK : K + 20 < 2 ^ 40) (near : Str) (hn : As near 100) (k : Nat) (x1 x2 x4 x6 x7 : Option W) : ∃ z6 y', execs pg (lev pg (n + 8)) lBd [some (.r p), x1, x2, some (.d (.str near)), x4, some (.d (.int k)), x6, x7] (m.set p y) = .nx [some (.r p), x1, x2, some (.d (.str near)), x4, some (.d (.int k)), z6, x7] (m.set p y') ∧ PotV y' (K + 5 + (if 8 < k then 5 else 0)) := by
  obtain ⟨u, y1, e1, hu, v1⟩ := bent_ok (n + 5) m p K y near 100 hp hv (by omega) hn (by omega)
  have q0 : exec pg (lev pg (n + 8)) (sAt lBd 0) [some (.r p), x1, x2, some (.d (.str near)), x4, some (.d (.int k)), x6, x7] (m.set p y) = .nx [some (.r p), x1, x2, some (.d (.str near)), x4, some (.d (.int k)), some (.d (.str u)), x7] (m.set p y1) := by
    simp [sAt, foB, lBd, rBd, fn3, execs, exec, evI, seqI, seqD, forL, setT, ev, evs, evO, evC, evAnd, evOr, M.bind, M.ret, M.opt, Out.ofR, startE, tru, truth, isiD, ctOk, tyS, isiT, cmpD, eqE, fnEnd, lev_lo, datOf, bltD, binD, unD, Es.len, M.calm, methF, calF, asB, dund, dunName, isiX, aF0, aF1, aF2, aF3, aF4, aF5, aF6, aF7, aF8, aF9, aF10, aF11, aF12, aF13, aF14, aF15, aF16, aF17, aF18, aF19, aF20, aF21, aF22, aF23, aF24, aF25, aF26, aF27, aF28, aF29, aF30, aF31, aF32, aF33, aF34, aG8, aG16, aG20, aG22, aG24, aG25, aG26, aG27, aG28, aG29, aG30, aG31, aG33, aG35, aG37, aC0, aC1, aC2, aC3, aC4, aC5, aC6, aC7, aC8, aC9, aC10, aC11, aC12, aC13, aC14, aC15, aC16, aC17, aC18, aC19, aC20, aC21, aC22, aC23, aC24, aC25, aA0_25, aA0_24, aA0_23, aA0_22, aA0_21, aA0_20, aP0_19, aP0_18, aP0_17, aP0_16, aP0_14, aP0_15, aP0_13, aP0_26, aM0_0, aS0_12, aK0, e1]
  obtain ⟨t, y2, q1, ht, v2⟩ : ∃ t y2, exec pg (lev pg (n + 8)) (sAt lBd 1) [some (.r p), x1, x2, some (.d (.str near)), x4, some (.d (.int k)), some (.d (.str u)), x7] (m.set p y1) = .nx [some (.r p), x1, x2, some (.d (.str near)), x4, some (.d (.int k)), some (.d (.str t)), x7] (m.set p y2) ∧ As t 430 ∧ PotV y2 (K + 5 + (if 8 < k then 5 else 0)) := by
    by_cases h8 : 8 < k
    · obtain ⟨t, y2, e2, ht, v2⟩ := bent_ok (n + 5) m p _ y1 u 210 hp v1 (by omega) hu (by omega)
      refine ⟨t, y2, ?_, ht, by rw [if_pos h8]; exact v2⟩
      have h9 : (8 : Int) < (k : Int) := by omega
      simp [sAt, foB, lBd, rBd, fn3, execs, exec, evI, seqI, seqD, forL, setT, ev, evs, evO, evC, evAnd, evOr, M.bind, M.ret, M.opt, Out.ofR, startE, tru, truth, isiD, ctOk, tyS, isiT, cmpD, eqE, fnEnd, lev_lo, datOf, bltD, binD, unD, Es.len, M.calm, methF, calF, asB, dund, dunName, isiX, aF0, aF1, aF2, aF3, aF4, aF5, aF6, aF7, aF8, aF9, aF10, aF11, aF12, aF13, aF14, aF15, aF16, aF17, aF18, aF19, aF20, aF21, aF22, aF23, aF24, aF25, aF26, aF27, aF28, aF29, aF30, aF31, aF32, aF33, aF34, aG8, aG16, aG20, aG22, aG24, aG25, aG26, aG27, aG28, aG29, aG30, aG31, aG33, aG35, aG37, aC0, aC1, aC2, aC3, aC4, aC5, aC6, aC7, aC8, aC9, aC10, aC11, aC12, aC13, aC14, aC15, aC16, aC17, aC18, aC19, aC20, aC21, aC22, aC23, aC24, aC25, aA0_25, aA0_24, aA0_23, aA0_22, aA0_21, aA0_20, aP0_19, aP0_18, aP0_17, aP0_16, aP0_14, aP0_15, aP0_13, aP0_26, aM0_0, aS0_12, aK0, h9, h8, e2]
    · refine ⟨u, y1, ?_, hu.le (by omega), by rw [if_neg h8]; exact v1.le (by omega)⟩
      have h9 : ¬ (8 : Int) < (k : Int) := by omega
      simp [sAt, foB, lBd, rBd, fn3, execs, exec, evI, seqI, seqD, forL, setT, ev, evs, evO, evC, evAnd, evOr, M.bind, M.ret, M.opt, Out.ofR, startE, tru, truth, isiD, ctOk, tyS, isiT, cmpD, eqE, fnEnd, lev_lo, datOf, bltD, binD, unD, Es.len, M.calm, methF, calF, asB, dund, dunName, isiX, aF0, aF1, aF2, aF3, aF4, aF5, aF6, aF7, aF8, aF9, aF10, aF11, aF12, aF13, aF14, aF15, aF16, aF17, aF18, aF19, aF20, aF21, aF22, aF23, aF24, aF25, aF26, aF27, aF28, aF29, aF30, aF31, aF32, aF33, aF34, aG8, aG16, aG20, aG22, aG24, aG25, aG26, aG27, aG28, aG29, aG30, aG31, aG33, aG35, aG37, aC0, aC1, aC2, aC3, aC4, aC5, aC6, aC7, aC8, aC9, aC10, aC11, aC12, aC13, aC14, aC15, aC16, aC17, aC18, aC19, aC20, aC21, aC22, aC23, aC24, aC25, aA0_25, aA0_24, aA0_23, aA0_22, aA0_21, aA0_20, aP0_19, aP0_18, aP0_17, aP0_16, aP0_14, aP0_15, aP0_13, aP0_26, aM0_0, aS0_12, aK0, h9, h8]
  have w2 := set_wf (p := p) hm v2
  obtain ⟨b, e3⟩ := short_ok (n + 7) (m.set p y2) w2 t 430 ht (by omega)
  have e4 := read_ok n (m.set p y2) w2 (.str t) (ht.tx (by omega)).val
  have q2 : exec pg (lev pg (n + 8)) (sAt lBd 2) [some (.r p), x1, x2, some (.d (.str near)), x4, some (.d (.int k)), some (.d (.str t)), x7] (m.set p y2) = .nx [some (.r p), x1, x2, some (.d (.str near)), x4, some (.d (.int k)), some (.d (.str t)), x7] (m.set p y2) := by
    cases b <;> simp [sAt, foB, lBd, rBd, fn3, execs, exec, evI, seqI, seqD, forL, setT, ev, evs, evO, evC, evAnd, evOr, M.bind, M.ret, M.opt, Out.ofR, startE, tru, truth, isiD, ctOk, tyS, isiT, cmpD, eqE, fnEnd, lev_lo, datOf, bltD, binD, unD, Es.len, M.calm, methF, calF, asB, dund, dunName, isiX, aF0, aF1, aF2, aF3, aF4, aF5, aF6, aF7, aF8, aF9, aF10, aF11, aF12, aF13, aF14, aF15, aF16, aF17, aF18, aF19, aF20, aF21, aF22, aF23, aF24, aF25, aF26, aF27, aF28, aF29, aF30, aF31, aF32, aF33, aF34, aG8, aG16, aG20, aG22, aG24, aG25, aG26, aG27, aG28, aG29, aG30, aG31, aG33, aG35, aG37, aC0, aC1, aC2, aC3, aC4, aC5, aC6, aC7, aC8, aC9, aC10, aC11, aC12, aC13, aC14, aC15, aC16, aC17, aC18, aC19, aC20, aC21, aC22, aC23, aC24, aC25, aA0_25, aA0_24, aA0_23, aA0_22, aA0_21, aA0_20, aP0_19, aP0_18, aP0_17, aP0_16, aP0_14, aP0_15, aP0_13, aP0_26, aM0_0, aS0_12, aK0, e3, e4]
  refine ⟨some (.d (.str t)), y2, ?_, v2⟩
  rw [lBd_eq, xs_cons _ _ _ _ _ _ _ _ q0, xs_cons _ _ _ _ _ _ _ _ q1, xs_cons _ _ _ _ _ _ _ _ q2]
  rfl
abbrev T30 : Str := nTx 1000000000000000000000000000000
abbrev V6 (t : Str) : List D := [.str t, .str (t ++ Str.ofString " back"), .str (t ++ Str.ofString "\n"), .str (Str.ofString " " ++ t), .str (Str.ofString ""), .str (Str.ofString "0 0 1 up 0 back"), .str (Str.ofString "0 0 1 up -0"), .str (Str.ofString "0 0 1 up +1")]
abbrev V7 (t : Str) : List D := [.str (Str.ofString "0 00 1 up 0"), .str (Str.ofString "0 0 0 up 0"), .str (Str.ofString "-1 0 1 up 0"), .str (Str.ofString "0 0 " ++ T30 ++ Str.ofString " up 0"), .tup [.str t]]
abbrev V8 : D := .str (Str.ofString "1 0 " ++ T30 ++ Str.ofString " up 0")
section
variable (n : Nat) (m : Mu) (p : Nat) (t : Str) (ht : t.length ≤ 160) (x1 x2 x3 x5 x6 : Option W)
include ht
theorem s6_ok : exec pg (lev pg (n + 8)) (sAt rBd 6) [some (.r p), x1, x2, x3, some (.d (.str t)), x5, x6, none] m = .nx [some (.r p), x1, x2, x3, some (.d (.str t)), x5, x6, some (.r m.length)] (m ++ [.lst ((V6 t).map W.d)]) := by
  have st : strTop = 4000000 := rfl
  have g1 : t.length + (Str.ofString " back").length ≤ strTop := by rw [show (Str.ofString " back").length = 5 by decide]; omega
  have g2 : t.length + (Str.ofString "\n").length ≤ strTop := by rw [show (Str.ofString "\n").length = 1 by decide]; omega
  have g3 : (Str.ofString " ").length + t.length ≤ strTop := by rw [show (Str.ofString " ").length = 1 by decide]; omega
  simp [sAt, rBd, fn3, execs, exec, evI, seqI, seqD, forL, setT, ev, evs, evO, evC, evAnd, evOr, M.bind, M.ret, M.opt, Out.ofR, startE, tru, truth, isiD, ctOk, tyS, isiT, cmpD, eqE, fnEnd, lev_lo, datOf, bltD, binD, unD, Es.len, M.calm, methF, calF, asB, dund, dunName, isiX, aF0, aF1, aF2, aF3, aF4, aF5, aF6, aF7, aF8, aF9, aF10, aF11, aF12, aF13, aF14, aF15, aF16, aF17, aF18, aF19, aF20, aF21, aF22, aF23, aF24, aF25, aF26, aF27, aF28, aF29, aF30, aF31, aF32, aF33, aF34, aG8, aG16, aG20, aG22, aG24, aG25, aG26, aG27, aG28, aG29, aG30, aG31, aG33, aG35, aG37, aC0, aC1, aC2, aC3, aC4, aC5, aC6, aC7, aC8, aC9, aC10, aC11, aC12, aC13, aC14, aC15, aC16, aC17, aC18, aC19, aC20, aC21, aC22, aC23, aC24, aC25, aA0_25, aA0_24, aA0_23, aA0_22, aA0_21, aA0_20, aP0_19, aP0_18, aP0_17, aP0_16, aP0_14, aP0_15, aP0_13, aP0_26, aM0_0, aS0_12, aK0, g1, g2, g3]
theorem s7_ok : exec pg (lev pg (n + 8)) (sAt rBd 7) [some (.r p), x1, x2, x3, some (.d (.str t)), x5, x6, some (.r m.length)] (m ++ [.lst ((V6 t).map W.d)]) = .nx [some (.r p), x1, x2, x3, some (.d (.str t)), x5, x6, some (.r m.length)] (m ++ [.lst ((V6 t ++ V7 t).map W.d)]) := by
  have g1 : (Str.ofString "0 0 ").length + (Str.ofString (Int.repr 1000000000000000000000000000000)).length ≤ 4000000 := by decide +kernel
  have g2 : (Str.ofString "0 0 " ++ (Str.ofString (Int.repr 1000000000000000000000000000000))).length + (Str.ofString " up 0").length ≤ 4000000 := by decide +kernel
  have sm : Sm 1000000000000000000000000000000 = true := by decide +kernel
  simp [sAt, rBd, fn3, execs, exec, evI, seqI, seqD, forL, setT, ev, evs, evO, evC, evAnd, evOr, M.bind, M.ret, M.opt, Out.ofR, startE, tru, truth, isiD, ctOk, tyS, isiT, cmpD, eqE, fnEnd, lev_lo, datOf, bltD, binD, unD, Es.len, M.calm, methF, calF, asB, dund, dunName, isiX, aF0, aF1, aF2, aF3, aF4, aF5, aF6, aF7, aF8, aF9, aF10, aF11, aF12, aF13, aF14, aF15, aF16, aF17, aF18, aF19, aF20, aF21, aF22, aF23, aF24, aF25, aF26, aF27, aF28, aF29, aF30, aF31, aF32, aF33, aF34, aG8, aG16, aG20, aG22, aG24, aG25, aG26, aG27, aG28, aG29, aG30, aG31, aG33, aG35, aG37, aC0, aC1, aC2, aC3, aC4, aC5, aC6, aC7, aC8, aC9, aC10, aC11, aC12, aC13, aC14, aC15, aC16, aC17, aC18, aC19, aC20, aC21, aC22, aC23, aC24, aC25, aA0_25, aA0_24, aA0_23, aA0_22, aA0_21, aA0_20, aP0_19, aP0_18, aP0_17, aP0_16, aP0_14, aP0_15, aP0_13, aP0_26, aM0_0, aS0_12, aK0, g1, g2, sm, strTop]
  all_goals rfl
theorem s8_ok : exec pg (lev pg (n + 8)) (sAt rBd 8) [some (.r p), x1, x2, x3, some (.d (.str t)), x5, x6, some (.r m.length)] (m ++ [.lst ((V6 t ++ V7 t).map W.d)]) = .nx [some (.r p), x1, x2, x3, some (.d (.str t)), x5, x6, some (.r m.length)] (m ++ [.lst ((V6 t ++ V7 t ++ [V8]).map W.d)]) := by
  have g1 : (Str.ofString "1 0 ").length + (Str.ofString (Int.repr 1000000000000000000000000000000)).length ≤ 4000000 := by decide +kernel
  have g2 : (Str.ofString "1 0 " ++ (Str.ofString (Int.repr 1000000000000000000000000000000))).length + (Str.ofString " up 0").length ≤ 4000000 := by decide +kernel
  have sm : Sm 1000000000000000000000000000000 = true := by decide +kernel
  simp [sAt, rBd, fn3, execs, exec, evI, seqI, seqD, forL, setT, ev, evs, evO, evC, evAnd, evOr, M.bind, M.ret, M.opt, Out.ofR, startE, tru, truth, isiD, ctOk, tyS, isiT, cmpD, eqE, fnEnd, lev_lo, datOf, bltD, binD, unD, Es.len, M.calm, methF, calF, asB, dund, dunName, isiX, aF0, aF1, aF2, aF3, aF4, aF5, aF6, aF7, aF8, aF9, aF10, aF11, aF12, aF13, aF14, aF15, aF16, aF17, aF18, aF19, aF20, aF21, aF22, aF23, aF24, aF25, aF26, aF27, aF28, aF29, aF30, aF31, aF32, aF33, aF34, aG8, aG16, aG20, aG22, aG24, aG25, aG26, aG27, aG28, aG29, aG30, aG31, aG33, aG35, aG37, aC0, aC1, aC2, aC3, aC4, aC5, aC6, aC7, aC8, aC9, aC10, aC11, aC12, aC13, aC14, aC15, aC16, aC17, aC18, aC19, aC20, aC21, aC22, aC23, aC24, aC25, aA0_25, aA0_24, aA0_23, aA0_22, aA0_21, aA0_20, aP0_19, aP0_18, aP0_17, aP0_16, aP0_14, aP0_15, aP0_13, aP0_26, aM0_0, aS0_12, aK0, g1, g2, sm, strTop]
  all_goals rfl
end

theorem tx_of (s : Str) (h : (decide (s.length ≤ 500) && (TL.tl s).all fun c => decide (c < 16 ^ 8)) = true) : Tx s := by
  obtain ⟨h1, h2⟩ := Bool.and_eq_true_iff.mp h
  exact ⟨of_decide_eq_true h1, fun c hc => of_decide_eq_true (List.all_eq_true.mp h2 c hc)⟩
theorem Tx.app {x y : Str} (h : Tx x) (k : Tx y) (hl : x.length + y.length ≤ 500) : Tx (x ++ y) := by
  refine ⟨by rw [len_app]; exact hl, fun c hc => ?_⟩
  rw [TL.tl_append] at hc
  rcases List.mem_append.mp hc with z | z
  · exact h.2 c z
  · exact k.2 c z
theorem val_all (t : Str) (ht : As t 160) : ∀ v ∈ V6 t ++ V7 t ++ [V8], Val v := by
  have l0 := ht.1
  have hT := ht.tx (by omega)
  have a30 : As T30 40 := (nTx_as (k := 31) (by decide) (by decide +kernel)).le (by decide)
  have l30 := a30.1
  have t30 := a30.tx (by omega)
  have c1 : Tx (Str.ofString " back") := tx_of _ (by decide)
  have c2 : Tx (Str.ofString "\n") := tx_of _ (by decide)
  have c3 : Tx (Str.ofString " ") := tx_of _ (by decide)
  have c4 : Tx (Str.ofString "0 0 ") := tx_of _ (by decide)
  have c5 : Tx (Str.ofString "1 0 ") := tx_of _ (by decide)
  have c6 : Tx (Str.ofString " up 0") := tx_of _ (by decide)
  have m1 : (Str.ofString " back").length = 5 := by decide
  have m2 : (Str.ofString "\n").length = 1 := by decide
  have m3 : (Str.ofString " ").length = 1 := by decide
  have m4 : (Str.ofString "0 0 ").length = 4 := by decide
  have m5 : (Str.ofString "1 0 ").length = 4 := by decide
  have m6 : (Str.ofString " up 0").length = 5 := by decide
  intro v hv
  simp only [List.mem_append, List.mem_cons, List.not_mem_nil, or_false] at hv
  rcases hv with ((rfl | rfl | rfl | rfl | rfl | rfl | rfl | rfl) | (rfl | rfl | rfl | rfl | rfl)) | rfl
  · exact hT.val
  · exact (hT.app c1 (by omega)).val
  · exact (hT.app c2 (by omega)).val
  · exact (c3.app hT (by omega)).val
  · exact (tx_of _ (by decide)).val
  · exact (tx_of _ (by decide)).val
  · exact (tx_of _ (by decide)).val
  · exact (tx_of _ (by decide)).val
  · exact (tx_of _ (by decide)).val
  · exact (tx_of _ (by decide)).val
  · exact (tx_of _ (by decide)).val
  · exact ((c4.app t30 (by omega)).app c6 (by rw [len_app]; omega)).val
  · exact ⟨⟨.tuple [.str t], rfl, by simp [D.bnd, D.bnds]; omega, by simp [PyData.depth, PyData.depthAll]⟩, .inl rfl⟩
  · exact ((c5.app t30 (by omega)).app c6 (by rw [len_app]; omega)).val
theorem odd_val (n : Nat) (m : Mu) (p : Nat) (K : Int) (y : MO) (hp : p < m.length) (hv : PotV y K) (hK : K < 2 ^ 40) :
    ∃ x z, (lev pg (n + 3)).hi 8 [.r p] (m.set p y) = .ok (.d x) (m.set p z) ∧ Val x ∧ PotV z (K + 1) := by
  obtain ⟨x, z, e, h1, h2⟩ := of2 n m p K y [.non, .bl true, .bl false, .int (-1), .str (Str.ofString ""), .str (Str.ofString "0"), .str (Str.ofString "up"), .str (Str.ofString "back"), .tup [], .lst [], .dic [], .tup [.tup []], .tup [.int 0], .lst [.int 0], .tup [.int 0, .int 1], .str (Str.ofString "0 1 1 up 0"), .str (Str.ofString "tie"), .tup [.bl true], .lst [.str (Str.ofString "0")], .dic [(.inr (Str.ofString "a"), .int 0)], .str (Str.ofString "size 1"), .tup [.str (Str.ofString "down"), .int 1]] hp hv hK (by decide) (by decide)
  refine ⟨x, z, ?_, ?_, h2⟩
  · rw [lev_hi]
    simp [runFn, fn8, execs, exec, evI, seqI, seqD, forL, setT, ev, evs, evO, evC, evAnd, evOr, M.bind, M.ret, M.opt, Out.ofR, startE, tru, truth, isiD, ctOk, tyS, isiT, cmpD, eqE, fnEnd, lev_lo, datOf, bltD, binD, unD, Es.len, M.calm, methF, calF, asB, dund, dunName, isiX, aF0, aF1, aF2, aF3, aF4, aF5, aF6, aF7, aF8, aF9, aF10, aF11, aF12, aF13, aF14, aF15, aF16, aF17, aF18, aF19, aF20, aF21, aF22, aF23, aF24, aF25, aF26, aF27, aF28, aF29, aF30, aF31, aF32, aF33, aF34, aG8, aG16, aG20, aG22, aG24, aG25, aG26, aG27, aG28, aG29, aG30, aG31, aG33, aG35, aG37, aC0, aC1, aC2, aC3, aC4, aC5, aC6, aC7, aC8, aC9, aC10, aC11, aC12, aC13, aC14, aC15, aC16, aC17, aC18, aC19, aC20, aC21, aC22, aC23, aC24, aC25, aA0_25, aA0_24, aA0_23, aA0_22, aA0_21, aA0_20, aP0_19, aP0_18, aP0_17, aP0_16, aP0_14, aP0_15, aP0_13, aP0_26, aM0_0, aS0_12, aK0, zipK, strTop, e]
  · simp only [List.mem_cons, List.not_mem_nil, or_false] at h1
    rcases h1 with rfl | rfl | rfl | rfl | rfl | rfl | rfl | rfl | rfl | rfl | rfl | rfl | rfl | rfl | rfl | rfl | rfl | rfl | rfl | rfl | rfl | rfl <;> first | exact (tx_of _ (by decide)).val | exact ⟨⟨_, rfl, by decide, by decide⟩, .inl rfl⟩
theorem dat_d : ∀ l : List D, datOf (l.map W.d) = some l
  | [] => rfl
  | x :: r => by simp [datOf, dat_d r]
theorem right_ok (n : Nat) (m : Mu) (p : Nat) (K : Int) (y : MO) (hm : Wf m) (hp : p < m.length) (hv : PotV y K) (hK : K + 200 < 2 ^ 40) :
    ∃ x, (lev pg (n + 9)).hi 3 [.r p] (m.set p y) = .ok (.d (.bl true)) (m.set p x) ∧ PotV x (K + 100) := by
  have p30 : (10 : Int) ^ 30 = 1000000000000000000000000000000 := by decide
  have p35 : (10 : Int) ^ 35 = 100000000000000000000000000000000000 := by decide
  have q13 : (10 : Nat) ^ 13 = 10000000000000 := by decide
  have q31 : (10 : Nat) ^ 31 = 10000000000000000000000000000000 := by decide
  have q36 : (10 : Nat) ^ 36 = 1000000000000000000000000000000000000 := by decide
  have q100 : (10 : Nat) ^ 100 = 10000000000000000000000000000000000000000000000000000000000000000000000000000000000000000000000000000 := by decide +kernel
  obtain ⟨zd, y1, e1, hz, v1⟩ := of2 (n + 6) m p K y [.int 1, .int 3, .int 30, .int 200] hp hv (by omega) (by simp) (by simp)
  obtain ⟨z, rfl, z1, z2⟩ : ∃ z : Int, zd = .int z ∧ 1 ≤ z ∧ z ≤ 200 := by
    simp only [List.mem_cons, List.not_mem_nil, or_false] at hz
    rcases hz with rfl | rfl | rfl | rfl <;> exact ⟨_, rfl, by decide, by decide⟩
  obtain ⟨f, s, l, a, d, b, y2, e2, l1, l2, f0, f1, s0, s1, a0, a1, hb, v2⟩ := row2 (n + 4) m p _ z y1 hp v1 (by omega) z1 (by omega)
  have q0 : exec pg (lev pg (n + 8)) (sAt rBd 0) [some (.r p), none, none, none, none, none, none, none] (m.set p y) = .nx [some (.r p), some (.d (rowD f s l a d b)), none, none, none, none, none, none] (m.set p y2) := by
    simp [sAt, rBd, fn3, execs, exec, evI, seqI, seqD, forL, setT, ev, evs, evO, evC, evAnd, evOr, M.bind, M.ret, M.opt, Out.ofR, startE, tru, truth, isiD, ctOk, tyS, isiT, cmpD, eqE, fnEnd, lev_lo, datOf, bltD, binD, unD, Es.len, M.calm, methF, calF, asB, dund, dunName, isiX, aF0, aF1, aF2, aF3, aF4, aF5, aF6, aF7, aF8, aF9, aF10, aF11, aF12, aF13, aF14, aF15, aF16, aF17, aF18, aF19, aF20, aF21, aF22, aF23, aF24, aF25, aF26, aF27, aF28, aF29, aF30, aF31, aF32, aF33, aF34, aG8, aG16, aG20, aG22, aG24, aG25, aG26, aG27, aG28, aG29, aG30, aG31, aG33, aG35, aG37, aC0, aC1, aC2, aC3, aC4, aC5, aC6, aC7, aC8, aC9, aC10, aC11, aC12, aC13, aC14, aC15, aC16, aC17, aC18, aC19, aC20, aC21, aC22, aC23, aC24, aC25, aA0_25, aA0_24, aA0_23, aA0_22, aA0_21, aA0_20, aP0_19, aP0_18, aP0_17, aP0_16, aP0_14, aP0_15, aP0_13, aP0_26, aM0_0, aS0_12, aK0, e1, e2]
  obtain ⟨vd, y3, e3, hvd, v3⟩ := of2 (n + 6) m p _ y2 [.int 0, .int 0, .int (1000000000000000000000000000000 - (if f < s then s else f) - l), .int 1000000000000] hp v2 (by omega) (by simp) (by simp)
  obtain ⟨v, rfl, h0, h1, h2⟩ : ∃ v : Int, vd = .int v ∧ 0 ≤ v ∧ f + v + l ≤ 10 ^ 30 ∧ s + v + l ≤ 10 ^ 30 := by
    simp only [List.mem_cons, List.not_mem_nil, or_false] at hvd
    rcases hvd with rfl | rfl | rfl | rfl
    · exact ⟨_, rfl, by decide, by omega, by omega⟩
    · exact ⟨_, rfl, by decide, by omega, by omega⟩
    · exact ⟨_, rfl, by split <;> omega, by split <;> omega, by split <;> omega⟩
    · exact ⟨_, rfl, by decide, by omega, by omega⟩
  have q1 : exec pg (lev pg (n + 8)) (sAt rBd 1) [some (.r p), some (.d (rowD f s l a d b)), none, none, none, none, none, none] (m.set p y2) = .nx [some (.r p), some (.d (rowD f s l a d b)), some (.d (.int v)), none, none, none, none, none] (m.set p y3) := by
    simp [sAt, rBd, fn3, execs, exec, evI, seqI, seqD, forL, setT, ev, evs, evO, evC, evAnd, evOr, M.bind, M.ret, M.opt, Out.ofR, startE, tru, truth, isiD, ctOk, tyS, isiT, cmpD, eqE, fnEnd, lev_lo, datOf, bltD, binD, unD, Es.len, M.calm, methF, calF, asB, dund, dunName, isiX, aF0, aF1, aF2, aF3, aF4, aF5, aF6, aF7, aF8, aF9, aF10, aF11, aF12, aF13, aF14, aF15, aF16, aF17, aF18, aF19, aF20, aF21, aF22, aF23, aF24, aF25, aF26, aF27, aF28, aF29, aF30, aF31, aF32, aF33, aF34, aG8, aG16, aG20, aG22, aG24, aG25, aG26, aG27, aG28, aG29, aG30, aG31, aG33, aG35, aG37, aC0, aC1, aC2, aC3, aC4, aC5, aC6, aC7, aC8, aC9, aC10, aC11, aC12, aC13, aC14, aC15, aC16, aC17, aC18, aC19, aC20, aC21, aC22, aC23, aC24, aC25, aA0_25, aA0_24, aA0_23, aA0_22, aA0_21, aA0_20, aP0_19, aP0_18, aP0_17, aP0_16, aP0_14, aP0_15, aP0_13, aP0_26, aM0_0, aS0_12, aK0, seqOf, subD, L2.ixN, slcD, cutL, HT.sIx, optI, allI, maxI, e3]
  have w3 := set_wf (p := p) hm v3
  obtain ⟨u, hu, u0, u1⟩ : ∃ u : Int, (if (1000000000000 : Int) < v then 1000000000000 else v) = u ∧ 0 ≤ u ∧ u ≤ 1000000000000 := ⟨_, rfl, by split <;> omega, by split <;> omega⟩
  have fu := far_ok (n + 7) (m.set p y3) f s l a u d b
  have fv := far_ok (n + 7) (m.set p y3) f s l a v d b
  have la : Lo a := by unfold Lo; rw [q100]; omega
  have ll : Lo l := by unfold Lo; rw [q100]; omega
  have xu := textof_ok (n + 7) (m.set p y3) (f + u) (s + u) l a d b (by unfold Lo; rw [q100]; omega) (by unfold Lo; rw [q100]; omega) ll la
  have lf : Lo (f + v) := by unfold Lo; rw [q100]; omega
  have ls : Lo (s + v) := by unfold Lo; rw [q100]; omega
  have xv := textof_ok (n + 7) (m.set p y3) (f + v) (s + v) l a d b lf ls ll la
  have hnear : As (txtD (f + u) (s + u) l a d b) 100 := (txt_as _ _ _ _ d b 13 (by decide) (by rw [q13]; omega) (by rw [q13]; omega) (by rw [q13]; omega) (by rw [q36]; omega)).le (by decide)
  have htext : As (txtD (f + v) (s + v) l a d b) 160 := (txt_as _ _ _ _ d b 31 (by decide) (by rw [q31]; omega) (by rw [q31]; omega) (by rw [q31]; omega) (by rw [q36]; omega)).le (by decide)
  have k1 := tie_ok (n + 4) (m.set p y3) w3 (f + v) (s + v) l a d b (by omega) (by omega) l1 (by split <;> omega) hb
  have k2 := p_text (n + 4) (m.set p y3) (f + v) (s + v) l a d b lf ls ll la
  have k3 := of_text (n + 3) (m.set p y3) w3 (f + v) (s + v) l a d b la (by omega) (by omega) l1 (by split <;> omega) hb
  have k4 := m_eq (n + 2) (m.set p y3) (f + v) (s + v) l a (f + v) (s + v) l a d b d b
  simp only [beq_self_eq_true, Bool.and_self] at k4
  generalize txtD (f + u) (s + u) l a d b = near at *
  generalize txtD (f + v) (s + v) l a d b = t at *
  have q2 : exec pg (lev pg (n + 8)) (sAt rBd 2) [some (.r p), some (.d (rowD f s l a d b)), some (.d (.int v)), none, none, none, none, none] (m.set p y3) = .nx [some (.r p), some (.d (rowD (f + v) (s + v) l a d b)), some (.d (.int v)), some (.d (.str near)), none, none, none, none] (m.set p y3) := by
    simp [sAt, rBd, fn3, execs, exec, evI, seqI, seqD, forL, setT, ev, evs, evO, evC, evAnd, evOr, M.bind, M.ret, M.opt, Out.ofR, startE, tru, truth, isiD, ctOk, tyS, isiT, cmpD, eqE, fnEnd, lev_lo, datOf, bltD, binD, unD, Es.len, M.calm, methF, calF, asB, dund, dunName, isiX, aF0, aF1, aF2, aF3, aF4, aF5, aF6, aF7, aF8, aF9, aF10, aF11, aF12, aF13, aF14, aF15, aF16, aF17, aF18, aF19, aF20, aF21, aF22, aF23, aF24, aF25, aF26, aF27, aF28, aF29, aF30, aF31, aF32, aF33, aF34, aG8, aG16, aG20, aG22, aG24, aG25, aG26, aG27, aG28, aG29, aG30, aG31, aG33, aG35, aG37, aC0, aC1, aC2, aC3, aC4, aC5, aC6, aC7, aC8, aC9, aC10, aC11, aC12, aC13, aC14, aC15, aC16, aC17, aC18, aC19, aC20, aC21, aC22, aC23, aC24, aC25, aA0_25, aA0_24, aA0_23, aA0_22, aA0_21, aA0_20, aP0_19, aP0_18, aP0_17, aP0_16, aP0_14, aP0_15, aP0_13, aP0_26, aM0_0, aS0_12, aK0, allI, minI, hu, fu, fv, xu]
  have q3 : exec pg (lev pg (n + 8)) (sAt rBd 3) [some (.r p), some (.d (rowD (f + v) (s + v) l a d b)), some (.d (.int v)), some (.d (.str near)), none, none, none, none] (m.set p y3) = .nx [some (.r p), some (.d (rowD (f + v) (s + v) l a d b)), some (.d (.int v)), some (.d (.str near)), some (.d (.str t)), none, none, none] (m.set p y3) := by
    simp [sAt, rBd, fn3, execs, exec, evI, seqI, seqD, forL, setT, ev, evs, evO, evC, evAnd, evOr, M.bind, M.ret, M.opt, Out.ofR, startE, tru, truth, isiD, ctOk, tyS, isiT, cmpD, eqE, fnEnd, lev_lo, datOf, bltD, binD, unD, Es.len, M.calm, methF, calF, asB, dund, dunName, isiX, aF0, aF1, aF2, aF3, aF4, aF5, aF6, aF7, aF8, aF9, aF10, aF11, aF12, aF13, aF14, aF15, aF16, aF17, aF18, aF19, aF20, aF21, aF22, aF23, aF24, aF25, aF26, aF27, aF28, aF29, aF30, aF31, aF32, aF33, aF34, aG8, aG16, aG20, aG22, aG24, aG25, aG26, aG27, aG28, aG29, aG30, aG31, aG33, aG35, aG37, aC0, aC1, aC2, aC3, aC4, aC5, aC6, aC7, aC8, aC9, aC10, aC11, aC12, aC13, aC14, aC15, aC16, aC17, aC18, aC19, aC20, aC21, aC22, aC23, aC24, aC25, aA0_25, aA0_24, aA0_23, aA0_22, aA0_21, aA0_20, aP0_19, aP0_18, aP0_17, aP0_16, aP0_14, aP0_15, aP0_13, aP0_26, aM0_0, aS0_12, aK0, xv]
  obtain ⟨zz, hzz⟩ := rp_str (htext.tx (by omega)).val.1
  have k5 := eqP_str zz zz
  simp only [beq_self_eq_true] at k5
  have q4 : exec pg (lev pg (n + 8)) (sAt rBd 4) [some (.r p), some (.d (rowD (f + v) (s + v) l a d b)), some (.d (.int v)), some (.d (.str near)), some (.d (.str t)), none, none, none] (m.set p y3) = .nx [some (.r p), some (.d (rowD (f + v) (s + v) l a d b)), some (.d (.int v)), some (.d (.str near)), some (.d (.str t)), none, none, none] (m.set p y3) := by
    simp [sAt, rBd, fn3, execs, exec, evI, seqI, seqD, forL, setT, ev, evs, evO, evC, evAnd, evOr, M.bind, M.ret, M.opt, Out.ofR, startE, tru, truth, isiD, ctOk, tyS, isiT, cmpD, eqE, fnEnd, lev_lo, datOf, bltD, binD, unD, Es.len, M.calm, methF, calF, asB, dund, dunName, isiX, aF0, aF1, aF2, aF3, aF4, aF5, aF6, aF7, aF8, aF9, aF10, aF11, aF12, aF13, aF14, aF15, aF16, aF17, aF18, aF19, aF20, aF21, aF22, aF23, aF24, aF25, aF26, aF27, aF28, aF29, aF30, aF31, aF32, aF33, aF34, aG8, aG16, aG20, aG22, aG24, aG25, aG26, aG27, aG28, aG29, aG30, aG31, aG33, aG35, aG37, aC0, aC1, aC2, aC3, aC4, aC5, aC6, aC7, aC8, aC9, aC10, aC11, aC12, aC13, aC14, aC15, aC16, aC17, aC18, aC19, aC20, aC21, aC22, aC23, aC24, aC25, aA0_25, aA0_24, aA0_23, aA0_22, aA0_21, aA0_20, aP0_19, aP0_18, aP0_17, aP0_16, aP0_14, aP0_15, aP0_13, aP0_26, aM0_0, aS0_12, aK0, k1, k2, k3, k4, k5, hzz, eqR, aK0]
  have ei5 : evI pg (lev pg (n + 8)) (.rng1 (.cst (.int 12))) [some (.r p), some (.d (rowD (f + v) (s + v) l a d b)), some (.d (.int v)), some (.d (.str near)), some (.d (.str t)), none, none, none] (m.set p y3) = .ok ((rngL 0 12).map W.d) (m.set p y3) := by
    simp [execs, exec, evI, seqI, seqD, forL, setT, ev, evs, evO, evC, evAnd, evOr, M.bind, M.ret, M.opt, Out.ofR, startE, tru, truth, isiD, ctOk, tyS, isiT, cmpD, eqE, fnEnd, lev_lo, datOf, bltD, binD, unD, Es.len, M.calm, methF, calF, asB, dund, dunName, isiX, aF0, aF1, aF2, aF3, aF4, aF5, aF6, aF7, aF8, aF9, aF10, aF11, aF12, aF13, aF14, aF15, aF16, aF17, aF18, aF19, aF20, aF21, aF22, aF23, aF24, aF25, aF26, aF27, aF28, aF29, aF30, aF31, aF32, aF33, aF34, aG8, aG16, aG20, aG22, aG24, aG25, aG26, aG27, aG28, aG29, aG30, aG31, aG33, aG35, aG37, aC0, aC1, aC2, aC3, aC4, aC5, aC6, aC7, aC8, aC9, aC10, aC11, aC12, aC13, aC14, aC15, aC16, aC17, aC18, aC19, aC20, aC21, aC22, aC23, aC24, aC25, aA0_25, aA0_24, aA0_23, aA0_22, aA0_21, aA0_20, aP0_19, aP0_18, aP0_17, aP0_16, aP0_14, aP0_15, aP0_13, aP0_26, aM0_0, aS0_12, aK0, rng1D]
  obtain ⟨e5, m5, hfl, z5, z6, y4, rfl, rfl, v4⟩ := forL_ix (st := setT (.nm 5)) (b := execs pg (lev pg (n + 8)) lBd) (fun k e m' => ∃ z5 z6 y4, e = [some (.r p), some (.d (rowD (f + v) (s + v) l a d b)), some (.d (.int v)), some (.d (.str near)), some (.d (.str t)), z5, z6, none] ∧ m' = m.set p y4 ∧ PotV y4 (K + 8 + 5 * k + 5 * ((k - 9 : Nat) : Int))) ((rngL 0 12).map W.d) (fun k w e m' hw hI => by
    obtain ⟨z5, z6, y4, rfl, rfl, v4⟩ := hI
    have hk : k < 12 := by
      have := (List.getElem?_eq_some_iff.mp hw).1
      simpa [rngL] using this
    obtain rfl : w = .d (.int k) := by
      have : ((rngL 0 12).map W.d)[k]? = some (.d (.int (k : Int))) := by
        simp [rngL, hk]
      rw [this] at hw
      exact (Option.some.inj hw).symm
    obtain ⟨z6', y5, eb, v5⟩ := lap_ok n m hm p hp _ y4 v4 (by omega) near hnear k (some (.d (rowD (f + v) (s + v) l a d b))) (some (.d (.int v))) (some (.d (.str t))) z6 none
    exact ⟨_, _, _, rfl, eb, _, _, y5, rfl, rfl, v5.le (by split <;> omega)⟩) ((rngL 0 12).map W.d) 0 [some (.r p), some (.d (rowD (f + v) (s + v) l a d b)), some (.d (.int v)), some (.d (.str near)), some (.d (.str t)), none, none, none] (m.set p y3) rfl (by simp) ⟨_, _, y3, rfl, rfl, v3.le (by omega)⟩
  have q5 : exec pg (lev pg (n + 8)) (.fo (.nm 5) (.rng1 (.cst (.int 12))) (foB (sAt rBd 5))) [some (.r p), some (.d (rowD (f + v) (s + v) l a d b)), some (.d (.int v)), some (.d (.str near)), some (.d (.str t)), none, none, none] (m.set p y3) = .nx [some (.r p), some (.d (rowD (f + v) (s + v) l a d b)), some (.d (.int v)), some (.d (.str near)), some (.d (.str t)), z5, z6, none] (m.set p y4) := by
    rw [exec, ei5]
    exact hfl
  have v4 : PotV y4 (K + 90) := v4.le (by simp [rngL]; omega)
  have q6 := s6_ok n (m.set p y4) p t htext.1 (some (.d (rowD (f + v) (s + v) l a d b))) (some (.d (.int v))) (some (.d (.str near))) z5 z6
  have q7 := s7_ok n (m.set p y4) p t htext.1 (some (.d (rowD (f + v) (s + v) l a d b))) (some (.d (.int v))) (some (.d (.str near))) z5 z6
  have q8 := s8_ok n (m.set p y4) p t htext.1 (some (.d (rowD (f + v) (s + v) l a d b))) (some (.d (.int v))) (some (.d (.str near))) z5 z6
  have vs := val_all t htext
  have vl : (V6 t ++ V7 t ++ [V8]).length = 14 := rfl
  generalize V6 t ++ V7 t ++ [V8] = VV at *
  have sa : ∀ q : MO, (m ++ [MO.lst (VV.map W.d)]).set p q = m.set p q ++ [MO.lst (VV.map W.d)] := fun q => by simp [List.set_append, hp]
  obtain ⟨ox, y5, eo, ov, v5⟩ := odd_val (n + 5) (m ++ [MO.lst (VV.map W.d)]) p _ y4 (by simp; omega) v4 (by omega)
  rw [sa, sa] at eo
  obtain ⟨ux, uy⟩ := upper_ok htext (by omega)
  have w5 := set_wf (p := p) hm v5
  have w6 := dl_wf w5 VV
  have ln : (m.set p y4).length = m.length := by simp
  rw [ln] at q6 q7 q8
  have gx : (m.set p y5 ++ [MO.lst (VV.map W.d)])[m.length]? = some (MO.lst (VV.map W.d)) := by
    rw [List.getElem?_append_right (by simp)]
    simp
  have ad : addL .Add m.length [ox, .non, .int 0, .lst [.str t], .str (Txt.upper t)] (m.set p y5 ++ [MO.lst (VV.map W.d)]) = .ok (.d (.lst (VV ++ [ox, .non, .int 0, .lst [.str t], .str (Txt.upper t)]))) (m.set p y5 ++ [MO.lst (VV.map W.d)]) := by
    unfold addL
    rw [gx]
    simp only [dat_d]
    rw [decide_eq_true (show VV.length + [ox, D.non, .int 0, .lst [.str t], .str (Txt.upper t)].length ≤ strTop by rw [vl]; simp [strTop])]
    rfl
  have ei9 : evI pg (lev pg (n + 8)) rdI [some (.r p), some (.d (rowD (f + v) (s + v) l a d b)), some (.d (.int v)), some (.d (.str near)), some (.d (.str t)), z5, z6, some (.r m.length)] (m.set p y4 ++ [MO.lst (VV.map W.d)]) = .ok ((VV ++ [ox, .non, .int 0, .lst [.str t], .str (Txt.upper t)]).map W.d) (m.set p y5 ++ [MO.lst (VV.map W.d)]) := by
    simp [execs, exec, evI, seqI, seqD, forL, setT, ev, evs, evO, evC, evAnd, evOr, M.bind, M.ret, M.opt, Out.ofR, startE, tru, truth, isiD, ctOk, tyS, isiT, cmpD, eqE, fnEnd, lev_lo, datOf, bltD, binD, unD, Es.len, M.calm, methF, calF, asB, dund, dunName, isiX, aF0, aF1, aF2, aF3, aF4, aF5, aF6, aF7, aF8, aF9, aF10, aF11, aF12, aF13, aF14, aF15, aF16, aF17, aF18, aF19, aF20, aF21, aF22, aF23, aF24, aF25, aF26, aF27, aF28, aF29, aF30, aF31, aF32, aF33, aF34, aG8, aG16, aG20, aG22, aG24, aG25, aG26, aG27, aG28, aG29, aG30, aG31, aG33, aG35, aG37, aC0, aC1, aC2, aC3, aC4, aC5, aC6, aC7, aC8, aC9, aC10, aC11, aC12, aC13, aC14, aC15, aC16, aC17, aC18, aC19, aC20, aC21, aC22, aC23, aC24, aC25, aA0_25, aA0_24, aA0_23, aA0_22, aA0_21, aA0_20, aP0_19, aP0_18, aP0_17, aP0_16, aP0_14, aP0_15, aP0_13, aP0_26, aM0_0, aS0_12, aK0, strOf, smD, uy, eo, ad, seqOf]
  have va : ∀ x ∈ VV ++ [ox, .non, .int 0, .lst [.str t], .str (Txt.upper t)], Val x := fun x hx => by
    have l0 := htext.1
    simp only [List.mem_append, List.mem_cons, List.not_mem_nil, or_false] at hx
    rcases hx with hx | rfl | rfl | rfl | rfl | rfl
    · exact vs x hx
    · exact ov
    · exact ⟨⟨_, rfl, by decide, by decide⟩, .inl rfl⟩
    · exact ⟨⟨_, rfl, by decide, by decide⟩, .inl rfl⟩
    · exact ⟨⟨.list [.str t], rfl, by simp [D.bnd, D.bnds]; omega, by simp [PyData.depth, PyData.depthAll]⟩, .inl rfl⟩
    · exact ux.val
  have e9 := all_lcT (P := pg) (C := lev pg (n + 8)) (el := .call 4 (.cons (.var 6) .nil) [] .nil) (t := .nm 6) (i := rdI) (own := [6]) (m := m.set p y4 ++ [MO.lst (VV.map W.d)]) (m' := m.set p y5 ++ [MO.lst (VV.map W.d)]) w6 ei9 (by simp [vl]) (fun w hw acc => by
    obtain ⟨x, hx, rfl⟩ := List.mem_map.mp hw
    have z := read_ok n (m.set p y5 ++ [MO.lst (VV.map W.d)] ++ [MO.lst (acc.map W.d)]) (dl_wf w6 acc) x (va x hx)
    simp [lcF, wipeE, datM, execs, exec, evI, seqI, seqD, forL, setT, ev, evs, evO, evC, evAnd, evOr, M.bind, M.ret, M.opt, Out.ofR, startE, tru, truth, isiD, ctOk, tyS, isiT, cmpD, eqE, fnEnd, lev_lo, datOf, bltD, binD, unD, Es.len, M.calm, methF, calF, asB, dund, dunName, isiX, aF0, aF1, aF2, aF3, aF4, aF5, aF6, aF7, aF8, aF9, aF10, aF11, aF12, aF13, aF14, aF15, aF16, aF17, aF18, aF19, aF20, aF21, aF22, aF23, aF24, aF25, aF26, aF27, aF28, aF29, aF30, aF31, aF32, aF33, aF34, aG8, aG16, aG20, aG22, aG24, aG25, aG26, aG27, aG28, aG29, aG30, aG31, aG33, aG35, aG37, aC0, aC1, aC2, aC3, aC4, aC5, aC6, aC7, aC8, aC9, aC10, aC11, aC12, aC13, aC14, aC15, aC16, aC17, aC18, aC19, aC20, aC21, aC22, aC23, aC24, aC25, aA0_25, aA0_24, aA0_23, aA0_22, aA0_21, aA0_20, aP0_19, aP0_18, aP0_17, aP0_16, aP0_14, aP0_15, aP0_13, aP0_26, aM0_0, aS0_12, aK0] at z ⊢
    simp [z])
  refine ⟨y5, ?_, v5.le (by omega)⟩
  have qa : execs pg (lev pg (n + 8)) rBd [some (.r p), none, none, none, none, none, none, none] (m.set p y) = .rt (.d (.bl true)) (m.set p y5 ++ [MO.lst (VV.map W.d)]) := by
    rw [rBd_eq, xs_cons _ _ _ _ _ _ _ _ q0, xs_cons _ _ _ _ _ _ _ _ q1, xs_cons _ _ _ _ _ _ _ _ q2, xs_cons _ _ _ _ _ _ _ _ q3, xs_cons _ _ _ _ _ _ _ _ q4, xs_cons _ _ _ _ _ _ _ _ q5, xs_cons _ _ _ _ _ _ _ _ q6, xs_cons _ _ _ _ _ _ _ _ q7, xs_cons _ _ _ _ _ _ _ _ q8]
    simp only [execs, exec, e9]
    rfl
  rw [lev_hi]
  unfold runFn
  rw [aF3]
  have s3 : startE fn3.ns [W.r p] = [some (.r p), none, none, none, none, none, none, none] := rfl
  simp only [s3]
  show (if 1 = fn3.np then (match execs pg (lev pg (n + 8)) rBd _ _ with | .nx _ m1 => _ | .rt w m1 => _ | .ex c x _ m1 => _ | _ => _) else _) = _
  rw [qa]
  have ct : (m.set p y5 ++ [MO.lst (VV.map W.d)]).take (m.set p y).length = m.set p y5 := by
    have : (m.set p y).length = (m.set p y5).length := by simp
    rw [this]
    simp
  have cu := cut_wf (m := m.set p y5 ++ [MO.lst (VV.map W.d)]) (n := (m.set p y).length) (by rw [ct]; exact w5)
  rw [ct] at cu
  show fnEnd 1 (m.set p y).length (.d (.bl true)) (m.set p y5 ++ [MO.lst (VV.map W.d)]) = _
  simp only [fnEnd, cu]
  rfl

theorem goL_pot {n : Nat} {B : Mu} {p : Nat} (hB : Wf B) (hp : p < B.length) (e : Env) (he : e[2]? = some (some (.r p))) (hl : 3 < e.length) : ∀ (ws : List W) (c : Nat) (y : MO) (K : Int), PotV y K → K + 100 * ws.length + 200 < 2 ^ 40 → c + ws.length ≤ 1000 →
    ∃ y', goL (lcF (.nm 3) [3] (evC pg (lev pg (n + 9)) .no) (ev pg (lev pg (n + 9)) (.call 2 (.cons (.var 2) .nil) [] .nil)) e) B.length ws ((B ++ [MO.lst (tr c)]).set p y) = .ok () ((B ++ [MO.lst (tr (c + ws.length))]).set p y') ∧ PotV y' (K + 100 * ws.length)
  | [], c, y, K, hv, _, _ => ⟨y, by simp [goL, M.ret], hv.le (by simp)⟩
  | w :: r, c, y, K, hv, hK, hc => by
    have hK2 : K + 100 * (r.length + 1 : Nat) + 200 < 2 ^ 40 := hK
    have hc2 : c + (r.length + 1) ≤ 1000 := hc
    obtain ⟨y1, e1, v1⟩ := right_ok n (B ++ [MO.lst (tr c)]) p K y (tr_wf hB c) (by simp; omega) hv (by omega)
    obtain ⟨y2, e2, v2⟩ := goL_pot (n := n) hB hp e he hl r (c + 1) y1 (K + 100) v1 (by omega) (by omega)
    refine ⟨y2, ?_, v2.le (by simp only [List.length_cons]; omega)⟩
    have f1 : lcF (.nm 3) [3] (evC pg (lev pg (n + 9)) .no) (ev pg (lev pg (n + 9)) (.call 2 (.cons (.var 2) .nil) [] .nil)) e w ((B ++ [MO.lst (tr c)]).set p y) = .ok (some (.bl true)) ((B ++ [MO.lst (tr c)]).set p y1) := by
      have g : ((e.set 3 none).set 3 (some w))[2]? = some (some (.r p)) := by simp [he]
      simp [lcF, wipeE, datM, execs, exec, evI, seqI, seqD, forL, setT, ev, evs, evO, evC, evAnd, evOr, M.bind, M.ret, M.opt, Out.ofR, startE, tru, truth, isiD, ctOk, tyS, isiT, cmpD, eqE, fnEnd, lev_lo, datOf, bltD, binD, unD, Es.len, M.calm, methF, calF, asB, dund, dunName, isiX, aF0, aF1, aF2, aF3, aF4, aF5, aF6, aF7, aF8, aF9, aF10, aF11, aF12, aF13, aF14, aF15, aF16, aF17, aF18, aF19, aF20, aF21, aF22, aF23, aF24, aF25, aF26, aF27, aF28, aF29, aF30, aF31, aF32, aF33, aF34, aG8, aG16, aG20, aG22, aG24, aG25, aG26, aG27, aG28, aG29, aG30, aG31, aG33, aG35, aG37, aC0, aC1, aC2, aC3, aC4, aC5, aC6, aC7, aC8, aC9, aC10, aC11, aC12, aC13, aC14, aC15, aC16, aC17, aC18, aC19, aC20, aC21, aC22, aC23, aC24, aC25, aA0_25, aA0_24, aA0_23, aA0_22, aA0_21, aA0_20, aP0_19, aP0_18, aP0_17, aP0_16, aP0_14, aP0_15, aP0_13, aP0_26, aM0_0, aS0_12, aK0, g, he, e1]
    have ne : p ≠ B.length := by omega
    have q : pushA B.length (.bl true) ((B ++ [MO.lst (tr c)]).set p y1) = .ok () ((B ++ [MO.lst (tr (c + 1))]).set p y1) := by
      have g1 : ((B ++ [MO.lst (tr c)]).set p y1)[B.length]? = some (MO.lst (tr c)) := by
        rw [List.getElem?_set_ne ne]
        simp
      have g2 : (B ++ [MO.lst (tr c)]).set B.length (MO.lst (tr c ++ [.d (.bl true)])) = B ++ [MO.lst (tr (c + 1))] := by
        rw [fld]
        simp [tr, List.replicate_succ']
      have g3 : decide ((tr c).length < strTop) = true := decide_eq_true (by simp [tr, strTop]; omega)
      unfold pushA
      rw [g1]
      simp only [g3, cond_true]
      rw [List.set_comm _ _ ne, g2]
    unfold goL
    rw [bind_ok f1]
    simp only
    rw [bind_ok q, e2]
    have e9 : c + 1 + r.length = c + (w :: r).length := by simp only [List.length_cons]; omega
    rw [e9]
def lawBody : Ss := match fn0.body with
  | .cons (.fo _ _ b) _ => b
  | _ => .nil
abbrev lapE : E := .lc (.call 2 (.cons (.var 2) .nil) [] .nil) (.nm 3) (.rng1 (.cst (.int 4))) .no [3]
theorem lawBody_eq : lawBody = .cons (.asg (.nm 2) (.call 3 (.cons (.var 0) (.cons (.var 1) .nil)) [] .nil)) (.cons (.ite (.not (.blt .all (.cons lapE .nil))) (.cons (.ret (.cst (.bl false))) .nil) .nil) .nil) := rfl
theorem turn_ok (n : Nat) (m : Mu) (hm : Wf m) (ns : List Int) (k : Int) (k0 : 0 ≤ k) (k1 : k < 100) (a b : Option W) : ∃ e m', execs pg (lev pg (n + 9)) lawBody [some (.d (.scr ns)), some (.d (.int k)), a, b] m = .nx [some (.d (.scr ns)), some (.d (.int k)), e, b] m' ∧ Wf m' := by
  obtain ⟨x, e1, v1⟩ := pot_ok (n + 8) m ns k k0 k1
  have wx : Wf (m ++ [x]) := fun o ho j => by
    rcases List.mem_append.mp ho with z | z
    · exact hm o z j
    · rw [List.mem_singleton.mp z]; exact v1.under j
  have hp : m.length < (m ++ [x]).length := by simp
  obtain ⟨y, e2, v2⟩ := goL_pot (n := n) wx hp [some (.d (.scr ns)), some (.d (.int k)), some (.r m.length), b] rfl (by simp) ((rngL 0 4).map W.d) 0 x 0 v1 (by decide) (by decide)
  have e3 : ((m ++ [x]) ++ [MO.lst (tr 0)]).set m.length x = (m ++ [x]) ++ [MO.lst []] := by simp [tr]
  rw [e3] at e2
  refine ⟨some (.r m.length), m ++ [y], ?_, fun o ho j => ?_⟩
  · have tk : ((m ++ [x] ++ [MO.lst (tr 4)]).set m.length y).take (m ++ [x]).length = m ++ [y] := by
      have e8 : (m ++ [x] ++ [MO.lst (tr 4)]).set m.length y = (m ++ [y]) ++ [MO.lst (tr 4)] := by simp
      rw [e8]
      exact List.take_left' (by simp)
    have wy : Wf (m ++ [y]) := fun o ho j => by
      rcases List.mem_append.mp ho with z | z
      · exact hm o z j
      · rw [List.mem_singleton.mp z]; exact v2.under j
    have el : ev pg (lev pg (n + 9)) lapE [some (.d (.scr ns)), some (.d (.int k)), some (.r m.length), b] (m ++ [x]) = .ok (.d (.lst (List.replicate 4 (.bl true)))) (m ++ [y]) := by
      have ei : evI pg (lev pg (n + 9)) (.rng1 (.cst (.int 4))) [some (.d (.scr ns)), some (.d (.int k)), some (.r m.length), b] (m ++ [x]) = .ok ((rngL 0 4).map W.d) (m ++ [x]) := by
        simp [execs, exec, evI, seqI, seqD, forL, setT, ev, evs, evO, evC, evAnd, evOr, M.bind, M.ret, M.opt, Out.ofR, startE, tru, truth, isiD, ctOk, tyS, isiT, cmpD, eqE, fnEnd, lev_lo, datOf, bltD, binD, unD, Es.len, M.calm, methF, calF, asB, dund, dunName, isiX, aF0, aF1, aF2, aF3, aF4, aF5, aF6, aF7, aF8, aF9, aF10, aF11, aF12, aF13, aF14, aF15, aF16, aF17, aF18, aF19, aF20, aF21, aF22, aF23, aF24, aF25, aF26, aF27, aF28, aF29, aF30, aF31, aF32, aF33, aF34, aG8, aG16, aG20, aG22, aG24, aG25, aG26, aG27, aG28, aG29, aG30, aG31, aG33, aG35, aG37, aC0, aC1, aC2, aC3, aC4, aC5, aC6, aC7, aC8, aC9, aC10, aC11, aC12, aC13, aC14, aC15, aC16, aC17, aC18, aC19, aC20, aC21, aC22, aC23, aC24, aC25, aA0_25, aA0_24, aA0_23, aA0_22, aA0_21, aA0_20, aP0_19, aP0_18, aP0_17, aP0_16, aP0_14, aP0_15, aP0_13, aP0_26, aM0_0, aS0_12, aK0, rng1D]
      rw [ev_lc, bind_ok ei, e2]
      have g1 : ((m ++ [x] ++ [MO.lst (tr (0 + ((rngL 0 4).map W.d).length))]).set m.length y)[(m ++ [x]).length]? = some (MO.lst (tr 4)) := by
        rw [List.getElem?_set_ne (by simp)]
        simp [rngL]
      have g2 : cutMu (m ++ [x]).length ((m ++ [x] ++ [MO.lst (tr (0 + ((rngL 0 4).map W.d).length))]).set m.length y) = some (m ++ [y]) := by
        have e9 : 0 + ((rngL 0 4).map W.d).length = 4 := by simp [rngL]
        rw [e9, cut_wf (by rw [tk]; exact wy), tk]
      simp only [endL]
      rw [g1, g2]
      rfl
    have e4 : ev pg (lev pg (n + 9)) (.blt .all (.cons lapE .nil)) [some (.d (.scr ns)), some (.d (.int k)), some (.r m.length), b] (m ++ [x]) = .ok (.d (.bl true)) (m ++ [y]) := by
      rw [ev_blt1, bind_assoc, bind_ok el]
      rfl
    have s1 : exec pg (lev pg (n + 9)) (.asg (.nm 2) (.call 3 (.cons (.var 0) (.cons (.var 1) .nil)) [] .nil)) [some (.d (.scr ns)), some (.d (.int k)), a, b] m = .nx [some (.d (.scr ns)), some (.d (.int k)), some (.r m.length), b] (m ++ [x]) := by
      simp [execs, exec, evI, seqI, seqD, forL, setT, ev, evs, evO, evC, evAnd, evOr, M.bind, M.ret, M.opt, Out.ofR, startE, tru, truth, isiD, ctOk, tyS, isiT, cmpD, eqE, fnEnd, lev_lo, datOf, bltD, binD, unD, Es.len, M.calm, methF, calF, asB, dund, dunName, isiX, aF0, aF1, aF2, aF3, aF4, aF5, aF6, aF7, aF8, aF9, aF10, aF11, aF12, aF13, aF14, aF15, aF16, aF17, aF18, aF19, aF20, aF21, aF22, aF23, aF24, aF25, aF26, aF27, aF28, aF29, aF30, aF31, aF32, aF33, aF34, aG8, aG16, aG20, aG22, aG24, aG25, aG26, aG27, aG28, aG29, aG30, aG31, aG33, aG35, aG37, aC0, aC1, aC2, aC3, aC4, aC5, aC6, aC7, aC8, aC9, aC10, aC11, aC12, aC13, aC14, aC15, aC16, aC17, aC18, aC19, aC20, aC21, aC22, aC23, aC24, aC25, aA0_25, aA0_24, aA0_23, aA0_22, aA0_21, aA0_20, aP0_19, aP0_18, aP0_17, aP0_16, aP0_14, aP0_15, aP0_13, aP0_26, aM0_0, aS0_12, aK0, e1]
    have s3 : ev pg (lev pg (n + 9)) (.not (.blt .all (.cons lapE .nil))) [some (.d (.scr ns)), some (.d (.int k)), some (.r m.length), b] (m ++ [x]) = .ok (.d (.bl false)) (m ++ [y]) := by
      rw [ev_not, bind_ok e4]
      rfl
    have s2 : exec pg (lev pg (n + 9)) (.ite (.not (.blt .all (.cons lapE .nil))) (.cons (.ret (.cst (.bl false))) .nil) .nil) [some (.d (.scr ns)), some (.d (.int k)), some (.r m.length), b] (m ++ [x]) = .nx [some (.d (.scr ns)), some (.d (.int k)), some (.r m.length), b] (m ++ [y]) := by
      rw [exec, s3]
      rfl
    rw [lawBody_eq]
    exact xs_two pg _ _ _ _ _ _ _ _ s1 s2
  · rcases List.mem_append.mp ho with z | z
    · exact hm o z j
    · rw [List.mem_singleton.mp z]; exact v2.under j
theorem loop_ok (n : Nat) (ns : List Int) : ∀ (ws : List Int) (a b c : Option W) (m : Mu), Wf m → (∀ k ∈ ws, 0 ≤ k ∧ k < 100) → ∃ a' b' m', forL (setT (.nm 1)) (execs pg (lev pg (n + 9)) lawBody) (ws.map fun k => W.d (.int k)) [some (.d (.scr ns)), a, b, c] m = .nx [some (.d (.scr ns)), a', b', c] m'
  | [], a, b, c, m, _, _ => ⟨a, b, m, rfl⟩
  | k :: r, a, b, c, m, hm, h => by
    obtain ⟨k0, k1⟩ := h k List.mem_cons_self
    obtain ⟨e, m1, e1, w1⟩ := turn_ok n m hm ns k k0 k1 b c
    obtain ⟨a', b', m', e2⟩ := loop_ok n ns r (some (.d (.int k))) e c m1 w1 fun j hj => h j (List.mem_cons_of_mem _ hj)
    refine ⟨a', b', m', ?_⟩
    have e3 : setT (.nm 1) (.d (.int k)) [some (.d (.scr ns)), a, b, c] = some [some (.d (.scr ns)), some (.d (.int k)), b, c] := rfl
    simp only [List.map_cons, forL, e3, e1]
    exact e2
theorem fn0_eq : fn0.body = .cons (.fo (.nm 1) (.seq (.call 1 (.cons (.var 0) (.cons (.cst (.int 4)) .nil)) [] .nil)) lawBody) (.cons (.ret (.cst (.bl true))) .nil) := rfl
theorem law_run (ns : List Int) (h : ns.length ≤ 63) : ∃ m, (lev pg 10).hi 0 [.d (.scr ns)] [] = .ok (.d (.bl true)) m := by
  have ec := cells_ok 8 [] ns h
  obtain ⟨c, hc, hc4⟩ : ∃ c : Nat, (if (if (ns.length : Int) < 4 then (ns.length : Int) else 4) > 1 then (if (ns.length : Int) < 4 then (ns.length : Int) else 4) else 1).toNat = c ∧ c ≤ 4 := by
    refine ⟨_, rfl, ?_⟩
    split <;> (try split) <;> omega
  rw [hc] at ec
  obtain ⟨a', b', m', el⟩ := loop_ok 0 ns ((List.range c).map fun i : Nat => (i : Int)) none none none [] (fun o ho => by cases ho) (fun k hk => by
    obtain ⟨i, hi, rfl⟩ := List.mem_map.mp hk
    have := List.mem_range.mp hi
    omega)
  have ews : (rngL 0 c).map W.d = ((List.range c).map fun i : Nat => (i : Int)).map fun k => W.d (.int k) := by
    unfold rngL
    simp
  have ei : evI pg (lev pg 9) (.seq (.call 1 (.cons (.var 0) (.cons (.cst (.int 4)) .nil)) [] .nil)) [some (.d (.scr ns)), none, none, none] [] = .ok (((List.range c).map fun i : Nat => (i : Int)).map fun k => W.d (.int k)) [] := by
    rw [← ews]
    simp [execs, exec, evI, seqI, seqD, forL, setT, ev, evs, evO, evC, evAnd, evOr, M.bind, M.ret, M.opt, Out.ofR, startE, tru, truth, isiD, ctOk, tyS, isiT, cmpD, eqE, fnEnd, lev_lo, datOf, bltD, binD, unD, Es.len, M.calm, methF, calF, asB, dund, dunName, isiX, aF0, aF1, aF2, aF3, aF4, aF5, aF6, aF7, aF8, aF9, aF10, aF11, aF12, aF13, aF14, aF15, aF16, aF17, aF18, aF19, aF20, aF21, aF22, aF23, aF24, aF25, aF26, aF27, aF28, aF29, aF30, aF31, aF32, aF33, aF34, aG8, aG16, aG20, aG22, aG24, aG25, aG26, aG27, aG28, aG29, aG30, aG31, aG33, aG35, aG37, aC0, aC1, aC2, aC3, aC4, aC5, aC6, aC7, aC8, aC9, aC10, aC11, aC12, aC13, aC14, aC15, aC16, aC17, aC18, aC19, aC20, aC21, aC22, aC23, aC24, aC25, aA0_25, aA0_24, aA0_23, aA0_22, aA0_21, aA0_20, aP0_19, aP0_18, aP0_17, aP0_16, aP0_14, aP0_15, aP0_13, aP0_26, aM0_0, aS0_12, aK0, ec]
  refine ⟨[], ?_⟩
  have s1 : exec pg (lev pg 9) (.fo (.nm 1) (.seq (.call 1 (.cons (.var 0) (.cons (.cst (.int 4)) .nil)) [] .nil)) lawBody) [some (.d (.scr ns)), none, none, none] [] = .nx [some (.d (.scr ns)), a', b', none] m' := by
    rw [exec, ei]
    exact el
  have s2 : execs pg (lev pg 9) fn0.body [some (.d (.scr ns)), none, none, none] [] = .rt (.d (.bl true)) m' := by
    rw [fn0_eq, execs, s1]
    simp [execs, exec, evI, seqI, seqD, forL, setT, ev, evs, evO, evC, evAnd, evOr, M.bind, M.ret, M.opt, Out.ofR, startE, tru, truth, isiD, ctOk, tyS, isiT, cmpD, eqE, fnEnd, lev_lo, datOf, bltD, binD, unD, Es.len, M.calm, methF, calF, asB, dund, dunName, isiX, aF0, aF1, aF2, aF3, aF4, aF5, aF6, aF7, aF8, aF9, aF10, aF11, aF12, aF13, aF14, aF15, aF16, aF17, aF18, aF19, aF20, aF21, aF22, aF23, aF24, aF25, aF26, aF27, aF28, aF29, aF30, aF31, aF32, aF33, aF34, aG8, aG16, aG20, aG22, aG24, aG25, aG26, aG27, aG28, aG29, aG30, aG31, aG33, aG35, aG37, aC0, aC1, aC2, aC3, aC4, aC5, aC6, aC7, aC8, aC9, aC10, aC11, aC12, aC13, aC14, aC15, aC16, aC17, aC18, aC19, aC20, aC21, aC22, aC23, aC24, aC25, aA0_25, aA0_24, aA0_23, aA0_22, aA0_21, aA0_20, aP0_19, aP0_18, aP0_17, aP0_16, aP0_14, aP0_15, aP0_13, aP0_26, aM0_0, aS0_12, aK0]
  have hl : (lev pg 10).hi 0 [.d (.scr ns)] [] = runFn pg (lev pg 9) 0 [.d (.scr ns)] [] := rfl
  rw [hl]
  unfold runFn
  rw [aF0]
  have s3 : startE fn0.ns [W.d (.scr ns)] = [some (.d (.scr ns)), none, none, none] := rfl
  simp only [s3, s2]
  have hc0 : cutMu 0 m' = some [] := by
    unfold cutMu
    simp
  show (if 1 = fn0.np then fnEnd fn0.mode 0 (.d (.bl true)) m' else _) = _
  simp [fn0, fnEnd, froze, W.under, hc0]


end Tn.k02
set_option maxHeartbeats 0
namespace Tn.k02
open PySem PySem.W PySem.Calls PyProof.Rows
abbrev R : OpenRow := OpenLaw.row PySem.Challenge.rw_turnedtunes_k02_texts_of_ties
abbrev qv : Program := view R.prog [46]
theorem nmOk : namesB mt = true := by kernel_rfl
theorem run (w : World) : HandSHeadRun.RunEq R qv (hookM mt pg 6) (obM mt pg 6) 6000 looseN w := by
  intro os
  kernel_rfl
end Tn.k02
open PySem PySem.W PySem.Calls PyProof.Rows
theorem PySem.Challenge.cw_turnedtunes_k02_texts_of_ties_holds : PySem.Challenge.rw_turnedtunes_k02_texts_of_ties.Holds := by
  w_on; o_law
  refine HandSHeadRun.head_any (r := OpenLaw.row PySem.Challenge.rw_turnedtunes_k02_texts_of_ties) (q := Tn.k02.qv) (H := Tn.hookM Tn.k02.mt Tn.k02.pg 6) (ob := Tn.obM Tn.k02.mt Tn.k02.pg 6) (M := 6000) (loose := Tn.k02.looseN) (d := HandSHeadRun.topDef (OpenLaw.row PySem.Challenge.rw_turnedtunes_k02_texts_of_ties).prog 46) (kwd := []) (Tn.obM_eq _ _ _)
    (by kernel_rfl) (fun s => by kernel_rfl) Tn.k02.run (by kernel_rfl) (by kernel_rfl) (by kernel_rfl) (by rfl) (by first | assumption | decide +kernel) (by decide +kernel) ⟨rfl, rfl, rfl, rfl, rfl, by decide +kernel⟩ ?hw ?hc
  case hw => w_witness2
  case hc => exact Tn.law_end (l := PySem.Challenge.rw_turnedtunes_k02_texts_of_ties) (n := 63) (k := 10) (fl := 0) (gl := 0) (x := Str.ofString "_law_script") rfl (by decide) (by kernel_rfl) ⟨rfl, by decide, by decide⟩ Tn.k02.nmOk rfl (by kernel_rfl) rfl rfl ⟨by kernel_rfl, by kernel_rfl⟩ Tn.k02.law_run

