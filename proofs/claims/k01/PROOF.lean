import PyProof.Rows.All
import Wide.All
import OpenK.AllK
import Wide.FinOn
import HandS.Base
import HandS.Call
import HandS.List
import PyProof.EqLayable
import HandS.Comp
import HandS.Iter
import HandS.Exc
import HandS.ExcOwn
import HandS.Ends
import HandS.Deep
import HandS.Text
import HandS.Words
import HandS.WordsList
import HandS.WordsExc
import HandS.IsInst
import HandS.ExcIs
import HandS.Wide
import HandS.TupAny
import HandS.Zip
import KE.GoesMore
import KE.GoesZip
import HandS.TryMany
import HandS.HeadEnd
import HandS.HeadHook4
import HandS.Defaults
import KE.KStateDown
import HandS.Head0
import HandS.Head1
import HandS.Head2
import HandS.HeadHook1
import HandS.HeadHook2
import PySem.Challenge.RW_limitdesk_k01_fractions
set_option Elab.async false
set_option linter.all false
set_option maxRecDepth 100000
set_option maxHeartbeats 1000000
namespace LK
open PySem PySem.Spec PyProof.Rows L2
def excB (K : PySem.W.Frag) (x : Str) : Bool :=
  decide (PySem.W.findIn K (.ref (He.ga K x)) "__getattribute__" = some (some (.builtin "BaseException.__getattribute__"))) && decide (PySem.W.findIn K (.ref (He.ga K x)) "__getattr__" = some none) && PySem.W.hasDictIn K (He.ga K x) &&
  decide (PySem.W.findIn K (.ref (He.ga K x)) "__class__" = some (some (.builtin "object.__class__"))) && decide (PySem.W.specialIn K (.builtin "object.__class__") "__get__" = some (some (.builtin "getset_descriptor.__get__"))) &&
  decide (PySem.W.takesIn K (.builtin "object.__class__") = some true) && decide (PySem.W.mroIn K (He.ga K x) (.type "object") = some true) && decide (PySem.W.kitOne K (.ref (He.ga K x)) (.type "ValueError") = some true)
end LK
namespace LK.Kk01
open PySem PySem.Spec PyProof.Rows L2
def top (i : Nat) : Stmt := PySem.Challenge.pw_limitdesk_k01_fractions.main.body.getD i (.Pass ⟨0, 0, 0, 0⟩)
abbrev t_0 : Stmt := top 14
def d_0 : He.DefD := ⟨("_law_number", none), "_law_number", "_law_number", defArgs t_0, defBody t_0, defScope t_0, [], []⟩
abbrev t_1 : Stmt := top 10
def d_1 : He.DefD := ⟨("_law_cell_at", none), "_law_cell_at", "_law_cell_at", defArgs t_1, defBody t_1, defScope t_1, [], []⟩
abbrev t_2 : Stmt := top 15
def d_2 : He.DefD := ⟨("_law_drawn", none), "_law_drawn", "_law_drawn", defArgs t_2, defBody t_2, defScope t_2, [], []⟩
abbrev t_3 : Stmt := top 1
def d_3 : He.DefD := ⟨("divisor", none), "divisor", "divisor", defArgs t_3, defBody t_3, defScope t_3, [], []⟩
abbrev t_4 : Stmt := top 2
def d_4 : He.DefD := ⟨("frac", none), "frac", "frac", defArgs t_4, defBody t_4, defScope t_4, [], []⟩
abbrev t_5 : Stmt := top 8
def d_5 : He.DefD := ⟨("below", none), "below", "below", defArgs t_5, defBody t_5, defScope t_5, [], []⟩
abbrev t_6 : Stmt := top 12
def d_6 : He.DefD := ⟨("_law_divisor", none), "_law_divisor", "_law_divisor", defArgs t_6, defBody t_6, defScope t_6, [], []⟩
abbrev t_7 : Stmt := top 11
def d_7 : He.DefD := ⟨("_law_whole", none), "_law_whole", "_law_whole", defArgs t_7, defBody t_7, defScope t_7, [], []⟩
abbrev t_8 : Stmt := top 13
def d_8 : He.DefD := ⟨("_law_is_fraction", none), "_law_is_fraction", "_law_is_fraction", defArgs t_8, defBody t_8, defScope t_8, [], []⟩
abbrev t_9 : Stmt := top 16
def d_9 : He.DefD := ⟨("_law_is", none), "_law_is", "_law_is", defArgs t_9, defBody t_9, defScope t_9, [], []⟩
abbrev t_10 : Stmt := top 3
def d_10 : He.DefD := ⟨("plus", none), "plus", "plus", defArgs t_10, defBody t_10, defScope t_10, [], []⟩
abbrev t_11 : Stmt := top 4
def d_11 : He.DefD := ⟨("turned", none), "turned", "turned", defArgs t_11, defBody t_11, defScope t_11, [], []⟩
abbrev t_12 : Stmt := top 5
def d_12 : He.DefD := ⟨("less", none), "less", "less", defArgs t_12, defBody t_12, defScope t_12, [], []⟩
abbrev t_13 : Stmt := top 6
def d_13 : He.DefD := ⟨("times", none), "times", "times", defArgs t_13, defBody t_13, defScope t_13, [], []⟩
abbrev t_14 : Stmt := top 7
def d_14 : He.DefD := ⟨("over", none), "over", "over", defArgs t_14, defBody t_14, defScope t_14, [], []⟩
abbrev t_15 : Stmt := top 17
def d_15 : He.DefD := ⟨("law", none), "law", "law", defArgs t_15, defBody t_15, defScope t_15, [], []⟩
def fnl : List He.DefD := [d_0, d_1, d_2, d_3, d_4, d_5, d_6, d_7, d_8, d_9, d_10, d_11, d_12, d_13, d_14, d_15]
def fal : List He.Fa := [.glo "_law_number", .glo "_law_cell_at", .glo "_law_drawn", .glo "divisor", .glo "frac", .glo "below", .glo "_law_divisor", .glo "_law_whole", .glo "_law_is_fraction", .glo "_law_is", .glo "plus", .glo "turned", .glo "less", .glo "times", .glo "over", .glo "law", .free "abs", .free "len", .free "tuple", .free "list", .free "int", .free "str", .free "sum", .free "isinstance", .free "bool", .free "max", .free "min", .free "range", .free "zip", .free "ValueError"]
def exl (K : PySem.W.Frag) : Bool := true
abbrev R : PySem.W.OpenRow := PySem.W.OpenLaw.row PySem.Challenge.rw_limitdesk_k01_fractions
abbrev hk : PySem.W.Hook := He.hookX 4 fal fnl [] [] exl
def ob (s : PySem.W.SharedT) : He.AlX := He.obsX 4 fal fnl [] [] exl (HandSHeadRun.getT s)
theorem ob_eq (s : PySem.W.SharedT) : ob s = hk.obs s.abs := He.obsX_eq (HandSHeadRun.getT_eq s)
def loose : List Str := (["__name__", "divisor", "frac", "plus", "turned", "less", "times", "over", "below", "_law_cell_at", "_law_whole", "_law_divisor", "_law_is_fraction", "_law_number", "_law_drawn", "_law_is"] : List Str)
theorem run (w : World) : HandSHeadRun.RunEq R (PySem.W.view R.prog [17]) hk ob 1480 loose w := by
  intro os
  kernel_rfl
end LK.Kk01
/-! A small language of data (no heap), and what its texts do: the weakest precondition, by computation. -/
namespace LK
open PySem

/-- data: what a value is, the heap left out; scr: the script; brd p: the one object that a def may turn -/
inductive D where
  | non | bl (b : Bool) | int (i : Int) | str (s : Str) | tup (ds : List D) | lst (ds : List D) | scr (ns : List Int) | brd (p : Addr)
  deriving Inhabited

/-- operations on one datum -/
inductive O1 where
  | neg | abs | len | tupO | lstO | intO | strO | isInt | isBool | isTup | isLst | isStr | isN | notN | sum
  deriving DecidableEq
/-- operations on two data -/
inductive O2 where
  | add | sub | mul | fdiv | mod | pow | lt | le | gt | ge | eq | ne | cat | tcat | scat | ix | max | min | inD | ninD | ninS
  deriving DecidableEq
/-- methods of a text -/
inductive Mt where
  | startswith | split | partition | find | join
  deriving DecidableEq
/-- the object's fields -/
inductive Fl where
  | heads | tails | rows | goal
  deriving DecidableEq
/-- targets -/
inductive Tg where
  | nm (i : Nat) | pr (i j : Nat)
  deriving DecidableEq

mutual
inductive Ex where
  | var (i : Nat)
  | cst (d : D)
  | glb (g : Nat)
  | op1 (o : O1) (a : Ex)
  | op2 (o : O2) (a b : Ex)
  | and (a b : Ex) | or (a b : Ex) | not (a : Ex) | one (a : Ex)
  | tup (es : Exs) | lst (es : Exs)
  | sl (a : Ex) (lo hi : Ox)
  | call (f : Nat) (es : Exs)
  | comp (tg : Tg) (src : Src) (c : Ox) (elt : Ex)
  | compR (v i : Nat) (elt : Ex)
  | oix (i : Nat) (e : Ex) | oln (i : Nat) | onil (i : Nat) (ne : Bool)
  | fix (f : Fl) (v : Nat) (e : Ex) | flen (f : Fl) (v : Nat) | fin (f : Fl) (v : Nat) (e : Ex) | fidx (f : Fl) (v : Nat) (e : Ex)
  | fgoal (v : Nat) | fsl (f : Fl) (v : Nat) (lo hi : Ox)
  | lend (i : Nat) (e : Ex) | slF (a : Ex) (lo hi : Ox) | mth (m : Mt) (a b : Ex)
inductive Exs where
  | nil | cons (e : Ex) (es : Exs)
inductive Ox where
  | no | so (e : Ex)
inductive Src where
  | rng (e : Ex) | rng2 (a b : Ex) | seq (e : Ex) | zip (a b : Ex) | chs (e : Ex)
end

/-- neither calls nor makes lists: the object stands -/
def quiet : Ex → Bool
  | .var _ => true
  | .cst _ => true
  | .glb _ => true
  | .op1 o a => decide (o ≠ .lstO) && quiet a
  | .op2 o a b => decide (o ≠ .cat) && quiet a && quiet b
  | .and a b => quiet a && quiet b
  | .or a b => quiet a && quiet b
  | .not a => quiet a
  | .one a => quiet a
  | .oix _ e => quiet e
  | .oln _ => true
  | .fix _ _ e => quiet e
  | .flen _ _ => true
  | .fin _ _ e => quiet e
  | .fidx _ _ e => quiet e
  | _ => false
def quietO : Ox → Bool
  | .no => true
  | .so e => quiet e

/-- what an except suite does -/
inductive Hd where
  | set (i : Nat) (d : D) | inc (i : Nat) | incIs (e i : Nat) | retIs (e : Nat) | rais (c : Nat)
  deriving Inhabited

mutual
inductive Sm where
  | asg (i : Nat) (e : Ex) | asgO (i : Nat) (e : Ex) | frz (i : Nat)
  | app (i : Nat) (e : Ex) | ext (i : Nat) (e : Ex) | seti (i : Nat) (k e : Ex)
  | ite (c : Ex) (a b : Sms) | whil (c : Ex) (b : Sms) | forr (tg : Tg) (src : Src) (b : Sms)
  | ret (e : Ex) | retO (i : Nat) | expr (e : Ex) | rais (c : Nat) | tri (b : Sms) (hs : List (Nat × Hd))
  | dead | retB (i j : Nat) (e1 e2 : Ex) | meth (v f : Nat) (es : Exs) | fset (f : Fl) (v : Nat) (e : Ex) | fsetix (f : Fl) (v : Nat) (k e : Ex) | fapp (f : Fl) (v : Nat) (e : Ex)
inductive Sms where
  | nil | cons (s : Sm) (r : Sms)
end

/-- a slot: nothing; a datum; a list of its own that may be turned -/
inductive Sl where
  | no | vl (d : D) | ow (ds : List D)
  deriving Inhabited
/-- the object's state -/
structure Bd where
  heads : List D
  tails : List D
  rows : List D
  ro : Bool
  goal : List D
abbrev Ob := Option (Addr × Bd)

abbrev Env := List Sl
def gt : Env → Nat → Sl
  | [], _ => .no
  | s :: _, 0 => s
  | _ :: r, n + 1 => gt r n
def st : Env → Nat → Sl → Env
  | [], _, _ => []
  | _ :: r, 0, x => x :: r
  | s :: r, n + 1, x => s :: st r n x

/-- a promise on data: arguments, the object's state, what is wanted, what is wanted of an error -/
abbrev FSp := List D → Ob → (D → Ob → Prop) → (Nat → Prop) → Prop
structure Gm where
  sp : Nat → FSp
  fr : Nat → Bool
  gc : Nat → D

mutual
def toPy : D → PyData
  | .non => .none
  | .bl b => .bool b
  | .int i => .int i
  | .str s => .str s
  | .tup ds => .tuple (toPys ds)
  | .lst ds => .list (toPys ds)
  | .scr ns => .list (ns.map .int)
  | .brd _ => .none
def toPys : List D → List PyData
  | [] => []
  | d :: ds => toPy d :: toPys ds
end
mutual
/-- data that may be compared: no object within, at most n deep -/
def cmpOk : Nat → D → Bool
  | _, .non => true
  | _, .bl _ => true
  | _, .int _ => true
  | _, .str s => PyData.strOk s
  | 0, _ => false
  | n + 1, .tup ds => cmpOks n ds
  | n + 1, .lst ds => cmpOks n ds
  | _ + 1, .scr _ => true
  | _ + 1, .brd _ => false
def cmpOks : Nat → List D → Bool
  | _, [] => true
  | n, d :: ds => cmpOk n d && cmpOks n ds
end
def eqD (x y : D) : Bool := PyData.eqv (toPy x) (toPy y)

def MulOk (i j : Int) : Prop := ((-(2 ^ 64) < i ∧ i < 2 ^ 64) ∨ (-(2 ^ 64) < j ∧ j < 2 ^ 64)) ∨ i.natAbs.log2 + j.natAbs.log2 < 1000000
def DivOk (j : Int) : Prop := j ≠ 0 ∧ j.natAbs.log2 < 9000
def cutL {α : Type} (xs : List α) (lo hi : Option Int) : List α := (xs.drop (HT.sIx xs.length 0 lo)).take (HT.sIx xs.length xs.length hi - HT.sIx xs.length 0 lo)

def isIntD : D → Bool
  | .int _ => true
  | .bl _ => true
  | _ => false
def isBoolD : D → Bool
  | .bl _ => true
  | _ => false
def isTupD : D → Bool
  | .tup _ => true
  | _ => false
def isLstD : D → Bool
  | .lst _ => true
  | .scr _ => true
  | _ => false
def isStrD : D → Bool
  | .str _ => true
  | _ => false
def isNonD : D → Bool
  | .non => true
  | _ => false
def isBrdD : D → Bool
  | .brd _ => true
  | _ => false

def w1 (o : O1) (d : D) (Q : D → Prop) : Prop :=
  match o, d with
  | .neg, .int i => Q (.int (-i))
  | .abs, .int i => Q (.int (i.natAbs : Int))
  | .len, .tup ds => Q (.int ds.length)
  | .len, .lst ds => Q (.int ds.length)
  | .len, .scr ns => Q (.int ns.length)
  | .len, .str s => s.length ≤ 1000000 ∧ Q (.int s.length)
  | .tupO, .tup ds => Q (.tup ds)
  | .tupO, .lst ds => Q (.tup ds)
  | .lstO, .tup ds => Q (.lst ds)
  | .lstO, .lst ds => Q (.lst ds)
  | .intO, .int i => Q (.int i)
  | .intO, .bl b => Q (.int (if b then 1 else 0))
  | .intO, .str s => ∃ n, PySem.intText? s = some n ∧ s.length ≤ 640 ∧ Q (.int n)
  | .strO, .int i => i.natAbs.log2 < 1920 ∧ Q (.str (toString i))
  | .isInt, d => isBrdD d = false ∧ Q (.bl (isIntD d))
  | .isBool, d => isBrdD d = false ∧ Q (.bl (isBoolD d))
  | .isTup, d => isBrdD d = false ∧ Q (.bl (isTupD d))
  | .isLst, d => isBrdD d = false ∧ Q (.bl (isLstD d))
  | .isStr, d => isBrdD d = false ∧ Q (.bl (isStrD d))
  | .isN, d => Q (.bl (isNonD d))
  | .notN, d => Q (.bl (!isNonD d))
  | .sum, .lst ds => ∃ ns : List Int, ds = ns.map .int ∧ Q (.int ns.sum)
  | _, _ => False

def w2 (o : O2) (x y : D) (Q : D → Prop) : Prop :=
  match o, x, y with
  | .add, .int i, .int j => Q (.int (i + j))
  | .sub, .int i, .int j => Q (.int (i - j))
  | .mul, .int i, .int j => MulOk i j ∧ Q (.int (i * j))
  | .fdiv, .int i, .int j => DivOk j ∧ Q (.int (i.fdiv j))
  | .mod, .int i, .int j => j ≠ 0 ∧ Q (.int (i.fmod j))
  | .pow, .int i, .int j => (0 ≤ j ∧ j ≤ 1000000 ∧ i.natAbs < 2 ^ 64) ∧ Q (.int (i ^ j.toNat))
  | .lt, .int i, .int j => Q (.bl (decide (i < j)))
  | .le, .int i, .int j => Q (.bl (decide (i ≤ j)))
  | .gt, .int i, .int j => Q (.bl (decide (j < i)))
  | .ge, .int i, .int j => Q (.bl (decide (j ≤ i)))
  | .eq, x, y => cmpOk 20 x = true ∧ cmpOk 20 y = true ∧ Q (.bl (eqD x y))
  | .ne, x, y => cmpOk 20 x = true ∧ cmpOk 20 y = true ∧ Q (.bl (!eqD x y))
  | .cat, .lst a, .lst b => a.length + b.length ≤ 1000000 ∧ Q (.lst (a ++ b))
  | .tcat, .tup a, .tup b => a.length + b.length ≤ 1000000 ∧ Q (.tup (a ++ b))
  | .scat, .str a, .str b => a.length + b.length ≤ 1000000 ∧ Q (.str (a ++ b))
  | .ix, .lst ds, .int i => ∃ d, L2.atI ds i = some d ∧ Q d
  | .ix, .tup ds, .int i => ∃ d, L2.atI ds i = some d ∧ Q d
  | .ix, .scr ns, .int i => ∃ d, L2.atI ns i = some d ∧ Q (.int d)
  | .ix, .str s, .int i => ∃ c, s.length ≤ 1000000 ∧ L2.atI s.cps.toList i = some c ∧ Q (.str ⟨#[c]⟩)
  | .inD, x, .lst ds => cmpOk 20 x = true ∧ cmpOk 20 (.lst ds) = true ∧ Q (.bl (ds.any fun z => eqD z x))
  | .ninD, x, .lst ds => cmpOk 20 x = true ∧ cmpOk 20 (.lst ds) = true ∧ Q (.bl (!ds.any fun z => eqD z x))
  | .ninS, .str s, .str z => ∃ c, s = ⟨#[c]⟩ ∧ Q (.bl (!decide (c ∈ z.cps.toList)))
  | .max, .int i, .int j => Q (.int (if j > i then j else i))
  | .min, .int i, .int j => Q (.int (if j < i then j else i))
  | _, _, _ => False

def wsl (x : D) (lo hi : Option Int) (Q : D → Prop) : Prop :=
  match x with
  | .lst ds => Q (.lst (cutL ds lo hi))
  | .scr ns => Q (.lst ((cutL ns lo hi).map .int))
  | .tup ds => Q (.tup (cutL ds lo hi))
  | .str s => s.length ≤ 1000000 ∧ Q (.str ⟨(cutL s.cps.toList lo hi).toArray⟩)
  | _ => False

/-- a text's methods -/
def wmt (m : Mt) (x y : D) (Q : D → Prop) : Prop :=
  match m, x, y with
  | .startswith, .str a, .str b => Q (.bl (Txt.startswith a b))
  | .find, .str a, .str b => Q (.int (Txt.find a b))
  | .split, .str a, .str b => (b.length == 0) = false ∧ a.length + 2 ≤ 1000000 ∧ Q (.lst ((Txt.split a b).map .str))
  | .partition, .str a, .str b => (b.length == 0) = false ∧ a.length ≤ 1000000 ∧ Q (.tup [.str (Txt.partition a b).1, .str (Txt.partition a b).2.1, .str (Txt.partition a b).2.2])
  | .join, .str a, .lst ds => ∃ ys : List Str, ds = ys.map .str ∧ (ys.map (·.length)).sum + ys.length * a.length ≤ 16777216 ∧ Q (.str (Txt.join a ys))
  | _, _, _ => False
/-- a slice of a list -/
def wslF (x : D) (lo hi : Option Int) (Q : D → Prop) : Prop :=
  match x with
  | .lst ds => Q (.lst (cutL ds lo hi))
  | _ => False
/-- no address within -/
def atomD : D → Bool
  | .non => true
  | .bl _ => true
  | .int _ => true
  | .str _ => true
  | _ => false
def headInt : List D → Bool
  | [] => true
  | .int _ :: _ => true
  | _ => false
def headTup : List D → Bool
  | .tup _ :: _ => true
  | _ => false
mutual
/-- each list within is empty or begins with a whole number -/
def flatD : D → Bool
  | .tup ds => flatDs ds
  | .lst ds => headInt ds && flatDs ds
  | .scr _ => false
  | .brd _ => false
  | _ => true
def flatDs : List D → Bool
  | [] => true
  | d :: ds => flatD d && flatDs ds
end
/-- this datum does not reach that own list -/
def lendOk (ds : List D) (d : D) : Bool := atomD d || (flatD d && headTup ds)

def fld (B : Bd) : Fl → List D
  | .heads => B.heads
  | .tails => B.tails
  | .rows => B.rows
  | .goal => B.goal
/-- the object that stands in the slot -/
def theB (δ : Env) (v : Nat) (b : Ob) (Q : Addr → Bd → Prop) : Prop :=
  match gt δ v, b with
  | .vl (.brd p), some (q, B) => p = q ∧ Q q B
  | _, _ => False

def rngD (lo : Int) (n : Nat) : List D := (List.range n).map fun k => .int (lo + (k : Nat))
def binds (tg : Tg) (x : D) (δ : Env) (Q : Env → Prop) : Prop :=
  match tg, x with
  | .nm i, x => Q (st δ i (.vl x))
  | .pr i j, .tup [a, c] => Q (st (st δ i (.vl a)) j (.vl c))
  | _, _ => False
def wtest (d : D) (Q : Bool → Prop) : Prop :=
  match d with
  | .bl t => Q t
  | _ => False
/-- the items that a source walks -/
def wseq (x : D) (R : List D → Prop) : Prop :=
  match x with
  | .lst ds => R ds
  | .tup ds => R ds
  | .scr ns => R (ns.map .int)
  | _ => False
def wrng (x : D) (R : List D → Prop) : Prop :=
  match x with
  | .int j => (-(2 ^ 62) ≤ j ∧ j < 2 ^ 62) ∧ R (rngD 0 j.toNat)
  | _ => False
def wrng2 (x y : D) (R : List D → Prop) : Prop :=
  match x, y with
  | .int i, .int j => (-(2 ^ 62) ≤ i ∧ i < 2 ^ 62 ∧ -(2 ^ 62) ≤ j ∧ j < 2 ^ 62) ∧ R (rngD i (j - i).toNat)
  | _, _ => False
def zipD : List D → List D → List D
  | x :: xs, y :: ys => .tup [x, y] :: zipD xs ys
  | _, _ => []
def wzip (x y : D) (R : List D → Prop) : Prop :=
  match x, y with
  | .lst a, .lst b => R (zipD a b)
  | .tup a, .lst b => R (zipD a b)
  | .tup a, .tup b => R (zipD a b)
  | _, _ => False
/-- the loop of a comprehension: step tells what an item adds (nothing: it is left out) -/
def wmap (step : D → Ob → (Option D → Ob → Prop) → Prop) : List D → List D → Ob → (List D → Ob → Prop) → Prop
  | [], acc, b, Q => Q acc b
  | x :: xs, acc, b, Q => step x b fun o b' => wmap step xs (match o with | some d => acc ++ [d] | none => acc) b' Q

variable (G : Gm)
mutual
def wE : Ex → Env → Ob → (D → Ob → Prop) → (Nat → Prop) → Prop
  | .var i, δ, b, Q, _ => match gt δ i with
    | .vl d => Q d b
    | _ => False
  | .cst d, _, b, Q, _ => Q d b
  | .glb g, _, b, Q, _ => Q (G.gc g) b
  | .op1 o a, δ, b, Q, E => wE a δ b (fun x b1 => w1 o x fun z => Q z b1) E
  | .op2 o a c, δ, b, Q, E => wE a δ b (fun x b1 => wE c δ b1 (fun y b2 => w2 o x y fun z => Q z b2) E) E
  | .and a c, δ, b, Q, E => wE a δ b (fun x b1 => wtest x fun t => if t then wE c δ b1 Q E else Q (.bl false) b1) E
  | .or a c, δ, b, Q, E => wE a δ b (fun x b1 => wtest x fun t => if t then Q (.bl true) b1 else wE c δ b1 Q E) E
  | .not a, δ, b, Q, E => wE a δ b (fun x b1 => wtest x fun t => Q (.bl (!t)) b1) E
  | .one a, δ, b, Q, E => wE a δ b Q E
  | .tup es, δ, b, Q, E => wEs es δ b (fun ds b1 => Q (.tup ds) b1) E
  | .lst es, δ, b, Q, E => wEs es δ b (fun ds b1 => Q (.lst ds) b1) E
  | .sl a lo hi, δ, b, Q, E => wE a δ b (fun x b1 => wO lo δ b1 (fun l b2 => wO hi δ b2 (fun h b3 => wsl x l h fun z => Q z b3) E) E) E
  | .call f es, δ, b, Q, E => wEs es δ b (fun ds b1 => G.sp f ds b1 Q E) E
  | .comp tg src c elt, δ, b, Q, E => wSrc src δ b (fun xs b1 => xs.length ≤ 1000000 ∧ wmap (fun x b2 R => binds tg x δ fun δ2 =>
      wC c δ2 b2 (fun t b3 => if t then wE elt δ2 b3 (fun d b4 => R (some d) b4) (fun _ => False) else R none b3)) xs [] b1 fun ds b5 => Q (.lst ds) b5) E
  | .compR v i elt, δ, b, Q, _ => theB δ v b fun _ B => B.rows.length ≤ 1000000 ∧ wmap (fun x b2 R => wE elt (st δ i (.vl x)) b2 (fun d b3 => R (some d) b3) (fun _ => False)) B.rows [] none fun ds _ => Q (.lst ds) b
  | .oix i e, δ, b, Q, E => match gt δ i with
    | .ow ds => wE e δ b (fun x b1 => match x with
      | .int k => ∃ d, L2.atI ds k = some d ∧ Q d b1
      | _ => False) E
    | _ => False
  | .oln i, δ, b, Q, _ => match gt δ i with
    | .ow ds => Q (.int ds.length) b
    | _ => False
  | .onil i ne, δ, b, Q, _ => match gt δ i with
    | .ow ds => cmpOk 20 (.lst ds) = true ∧ Q (.bl (if ne then !ds.isEmpty else ds.isEmpty)) b
    | _ => False
  | .fix f v e, δ, b, Q, E => theB δ v b fun _ B => wE e δ b (fun x b1 => match x with
    | .int k => ∃ d, L2.atI (fld B f) k = some d ∧ Q d b1
    | _ => False) E
  | .flen f v, δ, b, Q, _ => theB δ v b fun _ B => Q (.int (fld B f).length) b
  | .fin f v e, δ, b, Q, E => wE e δ b (fun x b1 => theB δ v b1 fun _ B => match x with
    | .int k => ∃ ns : List Int, fld B f = ns.map .int ∧ Q (.bl (decide (k ∈ ns))) b1
    | _ => False) E
  | .fidx f v e, δ, b, Q, E => theB δ v b fun _ B => wE e δ b (fun x b1 => match x with
    | .int k => ∃ ns : List Int, fld B f = ns.map .int ∧ k ∈ ns ∧ Q (.int (ns.idxOf k)) b1
    | _ => False) E
  | .fgoal v, δ, b, Q, _ => theB δ v b fun _ B => Q (.lst B.goal) b
  | .lend i e, δ, b, Q, _ => match gt δ i with
    | .ow ds => wE e (st δ i (.vl (.lst ds))) b (fun d b1 => lendOk ds d = true ∧ b1 = none ∧ Q d b1) (fun _ => False)
    | _ => False
  | .slF a lo hi, δ, b, Q, E => wE a δ b (fun x b1 => wO lo δ b1 (fun l b2 => wO hi δ b2 (fun h b3 => wslF x l h fun z => Q z b3) E) E) E
  | .mth m a c, δ, b, Q, E => wE a δ b (fun x b1 => isStrD x = true ∧ wE c δ b1 (fun y b2 => wmt m x y fun z => Q z b2) E) E
  | .fsl f v lo hi, δ, b, Q, E => theB δ v b fun _ B => wO lo δ b (fun l b1 => wO hi δ b1 (fun h b2 => Q (.lst (cutL (fld B f) l h)) b2) E) E
def wEs : Exs → Env → Ob → (List D → Ob → Prop) → (Nat → Prop) → Prop
  | .nil, _, b, Q, _ => Q [] b
  | .cons e es, δ, b, Q, E => wE e δ b (fun d b1 => wEs es δ b1 (fun ds b2 => Q (d :: ds) b2) E) E
/-- a slice's bound -/
def wO : Ox → Env → Ob → (Option Int → Ob → Prop) → (Nat → Prop) → Prop
  | .no, _, b, Q, _ => Q none b
  | .so e, δ, b, Q, E => wE e δ b (fun x b1 => match x with
    | .int i => Q (some i) b1
    | _ => False) E
/-- a comprehension's test -/
def wC : Ox → Env → Ob → (Bool → Ob → Prop) → Prop
  | .no, _, b, Q => Q true b
  | .so e, δ, b, Q => wE e δ b (fun x b1 => wtest x fun t => Q t b1) (fun _ => False)
def wSrc : Src → Env → Ob → (List D → Ob → Prop) → (Nat → Prop) → Prop
  | .rng e, δ, b, R, E => wE e δ b (fun x b1 => wrng x fun xs => R xs b1) E
  | .rng2 a c, δ, b, R, E => wE a δ b (fun x b1 => wE c δ b1 (fun y b2 => wrng2 x y fun xs => R xs b2) E) E
  | .seq e, δ, b, R, E => wE e δ b (fun x b1 => wseq x fun xs => R xs b1) E
  | .zip a c, δ, b, R, E => wE a δ b (fun x b1 => wE c δ b1 (fun y b2 => wzip x y fun xs => R xs b2) E) E
  | .chs e, δ, b, R, E => wE e δ b (fun x b1 => match x with
    | .str s => R (s.cps.toList.map fun c => .str ⟨#[c]⟩) b1
    | _ => False) E
end

/-- what is wanted behind a statement -/
structure Kt where
  nx : Env → Ob → Prop
  rt : D → Ob → Prop
  ex : Nat → Env → Prop

def subC (c d : Nat) : Bool := c == d || d == 0
def wHd (h : Hd) (k : Kt) (δ : Env) : Prop :=
  match h with
  | .set i d => k.nx (st δ i (.vl d)) none
  | .inc i => match gt δ i with
    | .vl (.int n) => k.nx (st δ i (.vl (.int (n + 1)))) none
    | _ => False
  | .incIs e i => match gt δ i with
    | .vl (.int n) => k.nx (st (st δ i (.vl (.int (n + 1)))) e .no) none
    | _ => False
  | .retIs _ => k.rt (.bl true) none
  | .rais _ => False
def wHds (c : Nat) (δ : Env) (k : Kt) : List (Nat × Hd) → Prop
  | [] => k.ex c δ
  | (d, h) :: r => if subC c d then wHd h k (match h with | .incIs e _ => st δ e .no | .retIs e => st δ e .no | _ => δ) else wHds c δ k r
/-- a loop over items -/
def wfor (step : D → Env → Ob → (Env → Ob → Prop) → Prop) : List D → Env → Ob → (Env → Ob → Prop) → Prop
  | [], δ, b, Q => Q δ b
  | x :: xs, δ, b, Q => step x δ b fun δ' b' => wfor step xs δ' b' Q

mutual
def wS : Sm → Kt → Env → Ob → Prop
  | .asg i e, k, δ, b => wE G e δ b (fun d b1 => k.nx (st δ i (.vl d)) b1) (fun c => k.ex c δ)
  | .asgO i e, k, δ, b => wE G e δ b (fun d b1 => match d with
    | .lst ds => k.nx (st δ i (.ow ds)) b1
    | _ => False) (fun c => k.ex c δ)
  | .frz i, k, δ, b => match gt δ i with
    | .ow ds => k.nx (st δ i (.vl (.lst ds))) b
    | _ => k.nx δ b
  | .app i e, k, δ, b => match gt δ i with
    | .ow ds => wE G e δ b (fun d b1 => ds.length < 1000000 ∧ k.nx (st δ i (.ow (ds ++ [d]))) b1) (fun c => k.ex c δ)
    | _ => False
  | .ext i e, k, δ, b => match gt δ i with
    | .ow ds => wE G e δ b (fun d b1 => match d with
      | .lst es => ds.length + es.length ≤ 1000000 ∧ k.nx (st δ i (.ow (ds ++ es))) b1
      | _ => False) (fun c => k.ex c δ)
    | _ => False
  | .seti i ke e, k, δ, b => wE G e δ b (fun d b1 => match gt δ i with
    | .ow ds => wE G ke δ b1 (fun x b2 => match x with
      | .int j => ∃ m, L2.ixN ds.length j = some m ∧ k.nx (st δ i (.ow (ds.set m d))) b2
      | _ => False) (fun c => k.ex c δ)
    | _ => False) (fun c => k.ex c δ)
  | .ite c x y, k, δ, b => wE G c δ b (fun d b1 => wtest d fun t => if t then wB x k δ b1 else wB y k δ b1) (fun c => k.ex c δ)
  | .whil c y, k, δ, b => ∃ I : Nat → Env → Ob → Prop, (∃ m, I m δ b) ∧ ∀ m δ b, I m δ b →
      wE G c δ b (fun d b1 => wtest d fun t => if t then wB y { k with nx := fun δ' b' => ∃ m', m' < m ∧ I m' δ' b' } δ b1 else k.nx δ b1) (fun c => k.ex c δ)
  | .forr tg src y, k, δ, b => wSrc G src δ b (fun xs b1 => wfor (fun x δ b R => binds tg x δ fun δ' => wB y { k with nx := R } δ' b) xs δ b1 k.nx) (fun c => k.ex c δ)
  | .ret e, k, δ, b => wE G e δ b k.rt (fun c => k.ex c δ)
  | .retO i, k, δ, b => match gt δ i with
    | .ow ds => k.rt (.lst ds) b
    | _ => False
  | .expr e, k, δ, b => wE G e δ b (fun _ b1 => k.nx δ b1) (fun c => k.ex c δ)
  | .dead, _, _, _ => False
  | .rais c, k, δ, b => k.ex c δ
  | .tri y hs, k, δ, b => wB y { k with ex := fun c δ' => wHds c δ' k hs } δ b
  | .retB i j e1 e2, k, δ, b => match gt δ i, gt δ j with
    | .ow hs, .ow ts => wE G e1 δ b (fun d1 b1 => wE G e2 δ b1 (fun d2 b2 => match d1, d2 with
      | .lst rs, .lst g => b2 = none ∧ ∀ p, k.rt (.brd p) (some (p, ⟨hs, ts, rs, false, g⟩))
      | _, _ => False) (fun c => k.ex c δ)) (fun c => k.ex c δ)
    | _, _ => False
  | .meth v f es, k, δ, b => match gt δ v with
    | .vl (.brd p) => (∃ B, b = some (p, B)) ∧ wEs G es δ b (fun ds b1 => G.sp f (.brd p :: ds) b1 (fun _ b2 => k.nx δ b2) (fun _ => False)) (fun _ => False)
    | _ => False
  | .fset f v e, k, δ, b => wE G e δ b (fun d b1 => theB δ v b1 fun p B => match f, d with
    | .rows, .lst ds => k.nx δ (some (p, { B with rows := ds, ro := true }))
    | .tails, .lst ds => k.nx δ (some (p, { B with tails := ds }))
    | .heads, .lst ds => k.nx δ (some (p, { B with heads := ds }))
    | .goal, .lst ds => k.nx δ (some (p, { B with goal := ds }))
    | _, _ => False) (fun c => k.ex c δ)
  | .fsetix f v ke e, k, δ, b => wE G e δ b (fun d b1 => theB δ v b1 fun p B => wE G ke δ b1 (fun x _ => match f, x with
    | .rows, .int j => ∃ m, B.ro = true ∧ L2.ixN B.rows.length j = some m ∧ k.nx δ (some (p, { B with rows := B.rows.set m d }))
    | .heads, .int j => ∃ m, L2.ixN B.heads.length j = some m ∧ k.nx δ (some (p, { B with heads := B.heads.set m d }))
    | .tails, .int j => ∃ m, L2.ixN B.tails.length j = some m ∧ k.nx δ (some (p, { B with tails := B.tails.set m d }))
    | _, _ => False) (fun c => k.ex c δ)) (fun c => k.ex c δ)
  | .fapp f v e, k, δ, b => theB δ v b fun p B => wE G e δ b (fun d _ => match f with
    | .tails => B.tails.length < 1000000 ∧ k.nx δ (some (p, { B with tails := B.tails ++ [d] }))
    | _ => False) (fun c => k.ex c δ)
def wB : Sms → Kt → Env → Ob → Prop
  | .nil, k, δ, b => k.nx δ b
  | .cons s r, k, δ, b => wS s { k with nx := fun δ' b' => wB r k δ' b' } δ b
end
end LK

/-! Does a text of the language say what a Python text says? -/
namespace LK
open PySem

/-- names: functions, constants, error classes; the object's class -/
structure Nms where
  fn : Nat → Str
  gl : Nat → Str
  ex : Nat → Str
  bd : Str
  hf : Nat → Bool
  hm : Nat → Bool
  hg : Nat → Bool
  hc : Nat → Bool
  hb : Bool

def isVis (sc : Scope) (x : Str) : Bool := match sc.names.lookup x with
  | some .local => true
  | some .cell => true
  | some .free => true
  | _ => false
def isLoc (sc : Scope) (x : Str) : Bool := match sc.names.lookup x with
  | some .local => true
  | some .cell => true
  | _ => false
def isGl (sc : Scope) (x : Str) : Bool := match sc.names.lookup x with
  | some .globalImplicit => true
  | _ => false
def okName (x : Str) : Bool := !(x == ("__debug__" : Str)) && !(x == ("__classdict__" : Str)) && !(x == ("__name__" : Str))
def flName : Fl → Str
  | .heads => "heads"
  | .tails => "tails"
  | .rows => "rows"
  | .goal => "goal"

section
variable (M : Nms) (N : List Str)
/-- the name in slot i -/
def chkV (sc : Scope) (i : Nat) (x : Expr) : Bool := match x with
  | .Name s _ => decide (N[i]? = some s) && isVis sc s && okName s
  | _ => false
def chkK (d : D) (x : Expr) : Bool := match x with
  | .Constant c _ _ => (match d, c with
    | .non, .none => true
    | .bl b, .bool c => b == c
    | .int i, .int j => i == j
    | .str s, .str t => s == t
    | _, _ => false)
  | _ => false
/-- a built-in called with one argument, its name -/
def blt1 : O1 → Option Str
  | .abs => some "abs"
  | .len => some "len"
  | .tupO => some "tuple"
  | .lstO => some "list"
  | .intO => some "int"
  | .strO => some "str"
  | .sum => some "sum"
  | _ => none
def isiT : O1 → Option Str
  | .isInt => some "int"
  | .isBool => some "bool"
  | .isTup => some "tuple"
  | .isLst => some "list"
  | .isStr => some "str"
  | _ => none
def binT : O2 → Option Operator
  | .add => some .Add
  | .sub => some .Sub
  | .mul => some .Mult
  | .fdiv => some .FloorDiv
  | .mod => some .Mod
  | .pow => some .Pow
  | .cat => some .Add
  | .tcat => some .Add
  | .scat => some .Add
  | _ => none
def cmpT : O2 → Option CmpOp
  | .lt => some .Lt
  | .le => some .LtE
  | .gt => some .Gt
  | .ge => some .GtE
  | .eq => some .Eq
  | .ne => some .NotEq
  | .inD => some .In
  | .ninD => some .NotIn
  | .ninS => some .NotIn
  | _ => none
def blt2 : O2 → Option Str
  | .max => some "max"
  | .min => some "min"
  | _ => none
def mtName : Mt → Str
  | .startswith => "startswith"
  | .split => "split"
  | .partition => "partition"
  | .find => "find"
  | .join => "join"
def mtBase : Expr → Bool
  | .Name _ _ => true
  | .Constant _ _ _ => true
  | _ => false
def glName (sc : Scope) (s : Str) (x : Expr) : Bool := match x with
  | .Name y _ => y == s && isGl sc y && okName y
  | _ => false
def isNone (x : Expr) : Bool := match x with
  | .Constant .none _ _ => true
  | _ => false
def ownOf : Tg → List (Str × Nat)
  | .nm i => [(N.getD i (Str.ofString "?"), i)]
  | .pr i j => [(N.getD i (Str.ofString "?"), i), (N.getD j (Str.ofString "?"), j)]
/-- a target's name -/
def chkL (sc : Scope) (i : Nat) (x : Expr) : Bool := match x with
  | .Name s _ => decide (N[i]? = some s) && isLoc sc s
  | _ => false
def chkTg (sc : Scope) (tg : Tg) (x : Expr) : Bool := match tg with
  | .nm i => chkL N sc i x
  | .pr i j => (match x with
    | .Tuple [a, b] _ _ => chkL N sc i a && chkL N sc j b && decide (i ≠ j)
    | _ => false)
/-- a comprehension's target: names of the block's own -/
def ownTg (scope : Scope) (tg : Tg) : Bool := (ownOf N tg).all fun p => match scope.names.lookup p.1 with
  | some .local => true
  | some .cell => true
  | _ => false
/-- zip goes to a pair of names -/
def zipOk : Tg → Src → Bool
  | .nm _, .zip _ _ => false
  | _, _ => true
def chkF (sc : Scope) (f : Fl) (v : Nat) (x : Expr) : Bool := match x with
  | .Attribute o a _ => M.hb && chkV N sc v o && a == flName f
  | _ => false
mutual
def chkE (sc : Scope) (e : Ex) (x : Expr) : Bool := match e with
  | .var i => chkV N sc i x
  | .cst d => chkK d x
  | .glb g => M.hg g && glName sc (M.gl g) x
  | .op1 o a => (match o with
    | .neg => (match x with
      | .UnaryOp .USub y _ => chkE sc a y
      | _ => false)
    | .isN => (match x with
      | .Compare y [.Is] [z] _ => chkE sc a y && isNone z
      | _ => false)
    | .notN => (match x with
      | .Compare y [.IsNot] [z] _ => chkE sc a y && isNone z
      | _ => false)
    | o => (match blt1 o with
      | some s => (match x with
        | .Call f [y] [] _ => glName sc s f && chkE sc a y
        | _ => false)
      | none => (match isiT o with
        | some t => (match x with
          | .Call f [y, z] [] _ => glName sc "isinstance" f && glName sc t z && chkE sc a y
          | _ => false)
        | none => false)))
  | .op2 o a b => (match binT o with
    | some op => (match x with
      | .BinOp y op' z _ => decide (op' = op) && chkE sc a y && chkE sc b z
      | _ => false)
    | none => (match cmpT o with
      | some op => (match x with
        | .Compare y [op'] [z] _ => decide (op' = op) && chkE sc a y && chkE sc b z
        | _ => false)
      | none => (match blt2 o with
        | some s => (match x with
          | .Call f [y, z] [] _ => glName sc s f && chkE sc a y && chkE sc b z
          | _ => false)
        | none => (match x with
          | .Subscript y z _ => chkE sc a y && chkE sc b z
          | _ => false))))
  | .and a b => (match x with
    | .BoolOp .And (y :: z :: r) p => chkE sc a y && chkE sc b (.BoolOp .And (z :: r) p)
    | _ => false)
  | .or a b => (match x with
    | .BoolOp .Or (y :: z :: r) p => chkE sc a y && chkE sc b (.BoolOp .Or (z :: r) p)
    | _ => false)
  | .one a => (match x with
    | .BoolOp _ [y] _ => chkE sc a y
    | _ => false)
  | .not a => (match x with
    | .UnaryOp .Not y _ => chkE sc a y
    | _ => false)
  | .tup es => (match x with
    | .Tuple ys _ _ => decide (ys.length ≤ 1000) && chkEs sc es ys
    | _ => false)
  | .lst es => (match x with
    | .List ys _ => decide (ys.length ≤ 1000) && chkEs sc es ys
    | _ => false)
  | .sl a lo hi => (match x with
    | .Subscript y (.Slice l h none _) _ => chkE sc a y && chkO sc lo l && chkO sc hi h
    | _ => false)
  | .call f es => (match x with
    | .Call g (y :: ys) [] _ => M.hf f && glName sc (M.fn f) g && chkEs sc es (y :: ys)
    | _ => false)
  | .comp tg src c elt => (match x with
    | .ListComp y [⟨t, it, ifs, 0⟩] scope _ => zipOk tg src && chkTg N (L2.relS scope sc) tg t && ownTg N scope tg && chkSrc sc src it && L2.blkC N sc scope (ownOf N tg) &&
        chkC (L2.relS scope sc) c ifs && chkE (L2.relS scope sc) elt y
    | _ => false)
  | .compR v i elt => (match x with
    | .ListComp y [⟨t, it, [], 0⟩] scope _ => chkTg N (L2.relS scope sc) (.nm i) t && ownTg N scope (.nm i) && chkF M N sc .rows v it && L2.blkC N sc scope (ownOf N (.nm i)) && chkE (L2.relS scope sc) elt y
    | _ => false)
  | .oix i e => (match x with
    | .Subscript y z _ => chkV N sc i y && chkE sc e z
    | _ => false)
  | .oln i => (match x with
    | .Call g [y] [] _ => glName sc "len" g && chkV N sc i y
    | _ => false)
  | .onil i ne => (match x with
    | .Compare y [op] [.List [] _] _ => chkV N sc i y && decide (op = if ne then .NotEq else .Eq)
    | _ => false)
  | .fix f v e => (match x with
    | .Subscript y z _ => quiet e && chkF M N sc f v y && chkE sc e z
    | _ => false)
  | .flen f v => (match x with
    | .Call g [y] [] _ => glName sc "len" g && chkF M N sc f v y
    | _ => false)
  | .fin f v e => (match x with
    | .Compare y [.In] [z] _ => chkE sc e y && chkF M N sc f v z
    | _ => false)
  | .fidx f v e => (match x with
    | .Call (.Attribute o m ap) [y] [] cp => quiet e && chkF M N sc f v o && m == ("index" : Str) && ap.endLine == cp.line && chkE sc e y
    | _ => false)
  | .fgoal v => chkF M N sc .goal v x
  | .fsl f v lo hi => (match x with
    | .Subscript y (.Slice l h none _) _ => quietO lo && quietO hi && chkF M N sc f v y && chkO sc lo l && chkO sc hi h
    | _ => false)
  | .lend _ e => (match x with
    | .Call f ys zs p => chkE sc e (.Call f ys zs p)
    | .Compare y ops zs p => chkE sc e (.Compare y ops zs p)
    | _ => false)
  | .slF a lo hi => (match x with
    | .Subscript y (.Slice l h none _) _ => chkE sc a y && chkO sc lo l && chkO sc hi h
    | _ => false)
  | .mth m a b => (match x with
    | .Call (.Attribute y s ap) [z] [] cp => s == mtName m && ap.endLine == cp.line && mtBase y && chkE sc a y && chkE sc b z
    | _ => false)
def chkEs (sc : Scope) (es : Exs) (xs : List Expr) : Bool := match es with
  | .nil => xs.isEmpty
  | .cons e es => (match xs with
    | x :: xs => chkE sc e x && chkEs sc es xs
    | [] => false)
def chkO (sc : Scope) (o : Ox) (x : Option Expr) : Bool := match o with
  | .no => x.isNone
  | .so e => (match x with
    | some x => chkE sc e x
    | none => false)
def chkC (sc : Scope) (o : Ox) (xs : List Expr) : Bool := match o with
  | .no => xs.isEmpty
  | .so e => (match xs with
    | [x] => chkE sc e x
    | _ => false)
def chkSrc (sc : Scope) (s : Src) (x : Expr) : Bool := match s with
  | .rng e => (match x with
    | .Call f [y] [] _ => glName sc "range" f && chkE sc e y
    | _ => false)
  | .rng2 a b => (match x with
    | .Call f [y, z] [] _ => glName sc "range" f && chkE sc a y && chkE sc b z
    | _ => false)
  | .seq e => chkE sc e x
  | .zip a b => (match x with
    | .Call f [y, z] [] _ => glName sc "zip" f && chkE sc a y && chkE sc b z
    | _ => false)
  | .chs e => chkE sc e x
end

/-- is what it tells a new list of its own? -/
def fresh (fr : Nat → Bool) : Ex → Bool
  | .lst _ => true
  | .comp .. => true
  | .compR .. => true
  | .op1 .lstO _ => true
  | .slF .. => true
  | .mth .split _ _ => true
  | .op2 .cat _ _ => true
  | .call f _ => fr f
  | _ => false
/-- a comprehension stored in a name: told on one line, to a plain local that the block does not bind, or to a cell -/
def chkAs (sc : Scope) (y : Expr) (x : Expr) : Bool := match y with
  | .Name s py => (match x with
    | .ListComp _ _ scope p => (match sc.names.lookup s with
      | some .local => py.line == p.line && !(scope.names.any fun (n, k) => n == s && (k == .local || k == .cell))
      | some .cell => true
      | _ => false)
    | .SetComp .. => false
    | .DictComp .. => false
    | _ => true)
  | _ => false
def chkHd (sc : Scope) (h : Hd) (nm : Option Str) (ss : List Stmt) : Bool := match h with
  | .set i d => nm.isNone && (match ss with
    | [.Assign [y] x _] => chkL N sc i y && chkK d x
    | _ => false)
  | .inc i => nm.isNone && (match ss with
    | [.Assign [y] (.BinOp a .Add (.Constant (.int 1) _ _) _) _] => chkL N sc i y && chkV N sc i a
    | _ => false)
  | .incIs e i => (match nm, ss with
    | some n, [.Assign [y] (.BinOp a .Add (.Call f [.Call g [u, z] [] _] [] _) _) _] => decide (N[e]? = some n) && decide (sc.names.lookup n = some .local) && decide (e ≠ i) && chkL N sc i y && chkV N sc i a &&
        glName sc "int" f && glName sc "isinstance" g && chkV N sc e u && glName sc "ValueError" z
    | _, _ => false)
  | .rais _ => nm.isNone && !ss.isEmpty
  | .retIs e => (match nm, ss with
    | some n, [.Return (some (.Call g [u, z] [] _)) _] => decide (N[e]? = some n) && decide (sc.names.lookup n = some .local) && glName sc "isinstance" g && chkV N sc e u && glName sc "ValueError" z
    | _, _ => false)
def chkHds (sc : Scope) (hs : List (Nat × Hd)) (xs : List ExceptHandler) : Bool := match hs, xs with
  | [], [] => true
  | (c, h) :: hs, (.ExceptHandler (some t) nm ss _) :: xs => M.hc c && glName sc (M.ex c) t && chkHd N sc h nm ss && chkHds sc hs xs
  | _, _ => false
def plainHd : Hd → Bool
  | .set _ _ => true
  | .inc _ => true
  | .rais _ => true
  | _ => false
/-- clauses without names, or one clause with a name -/
def triOk (hs : List (Nat × Hd)) : Bool := !hs.isEmpty && (hs.all (fun p => plainHd p.2) || (hs.length == 1 && hs.all (fun p => !plainHd p.2)))
mutual
/-- ow: what the def hands back is a new list -/
def chkS (fr : Nat → Bool) (ow : Bool) (sc : Scope) (s : Sm) (x : Stmt) : Bool := match s with
  | .asg i e => (match x with
    | .Assign [y] z _ => chkL N sc i y && chkAs sc y z && chkE M N sc e z
    | _ => false)
  | .asgO i e => fresh fr e && (match x with
    | .Assign [y] z _ => chkL N sc i y && chkAs sc y z && chkE M N sc e z
    | _ => false)
  | .frz _ => false
  | .dead => false
  | .app i e => (match x with
    | .Expr (.Call (.Attribute o m ap) [y] [] cp) _ => chkV N sc i o && m == ("append" : Str) && ap.endLine == cp.line && chkE M N sc e y
    | _ => false)
  | .ext i e => (match x with
    | .Expr (.Call (.Attribute o m ap) [y] [] cp) _ => chkV N sc i o && m == ("extend" : Str) && ap.endLine == cp.line && chkE M N sc e y
    | _ => false)
  | .seti i k e => (match x with
    | .Assign [.Subscript o y _] z _ => chkV N sc i o && chkE M N sc k y && chkE M N sc e z
    | _ => false)
  | .ite c a b => (match x with
    | .If t y z _ => chkE M N sc c t && chkB fr ow sc a y && chkB fr ow sc b z
    | _ => false)
  | .whil c b => (match x with
    | .While t y [] _ => chkE M N sc c t && chkB fr ow sc b y
    | _ => false)
  | .forr tg src b => (match x with
    | .For t it y [] _ => zipOk tg src && chkTg N sc tg t && chkSrc M N sc src it && chkB fr ow sc b y
    | _ => false)
  | .ret e => (!ow || fresh fr e) && (match x with
    | .Return (some y) _ => chkE M N sc e y
    | _ => false)
  | .retO i => ow && (match x with
    | .Return (some y) _ => chkV N sc i y
    | _ => false)
  | .expr e => (match x with
    | .Expr y _ => (match y with
      | .ListComp .. => false
      | .SetComp .. => false
      | .DictComp .. => false
      | _ => chkE M N sc e y)
    | _ => false)
  | .rais c => (match x with
    | .Raise (some (.Call f [.Constant (.str _) _ _] [] _)) none _ => M.hc c && glName sc (M.ex c) f
    | _ => false)
  | .tri b hs => (match x with
    | .Try y xs [] [] _ => triOk hs && chkB fr ow sc b y && chkHds M N sc hs xs && (!ow || hs.all fun p => match p.2 with
      | .retIs _ => false
      | _ => true)
    | _ => false)
  | .retB i j e1 e2 => !ow && decide (i ≠ j) && (match x with
    | .Return (some (.Call f [a, b, y, z] [] _)) _ => M.hb && glName sc M.bd f && chkV N sc i a && chkV N sc j b && chkE M N sc e1 y && chkE M N sc e2 z
    | _ => false)
  | .meth v f es => (match x with
    | .Expr (.Call (.Attribute o m ap) (y :: ys) [] cp) _ => M.hb && M.hm f && !fr f && chkV N sc v o && m == M.fn f && ap.endLine == cp.line && decide ((y :: ys).length < 30) && chkEs M N sc es (y :: ys)
    | _ => false)
  | .fset f v e => (f == .goal || fresh fr e) && (match x with
    | .Assign [.Attribute o a _] z _ => M.hb && chkV N sc v o && a == flName f && chkE M N sc e z
    | _ => false)
  | .fsetix f v k e => (match x with
    | .Assign [.Subscript o y _] z _ => quiet k && chkF M N sc f v o && chkE M N sc k y && chkE M N sc e z
    | _ => false)
  | .fapp f v e => (match x with
    | .Expr (.Call (.Attribute o m ap) [y] [] cp) _ => quiet e && chkF M N sc f v o && m == ("append" : Str) && ap.endLine == cp.line && chkE M N sc e y
    | _ => false)
def chkB (fr : Nat → Bool) (ow : Bool) (sc : Scope) (b : Sms) (xs : List Stmt) : Bool := match b with
  | .nil => xs.isEmpty
  | .cons s r => (match s with
    | .frz _ => chkB fr ow sc r xs
    | .dead => true
    | s => (match xs with
      | x :: xs => chkS fr ow sc s x && chkB fr ow sc r xs
      | [] => false))
end
end
end LK

/-! Data over the abstract heap. R: what stands and stays; H: all that stands. -/
namespace LK
open PySem PySem.Spec PyProof.Rows L2

def Sub (H H' : Hp) : Prop := ∀ b o, H b = some o → H' b = some o
theorem Sub.refl (H : Hp) : Sub H H := fun _ _ h => h
theorem Sub.trans {H H1 H2 : Hp} (a : Sub H H1) (b : Sub H1 H2) : Sub H H2 := fun c o h => b c o (a c o h)
theorem Sub.fre {H H' : Hp} (e : Sub H H') {p : Addr} (h : H' p = none) : H p = none := by
  cases q : H p with
  | none => rfl
  | some o =>
    rw [e p o q] at h
    cases h
theorem Sub.new {H : Hp} {p : Addr} {o : HO} (h : H p = none) : Sub H (upd H p o) := fun b u e => by
  rw [upd_ne (ne_of_none e h)]
  exact e
theorem sub_sqL {K : PySem.W.Frag} {H H' : Hp} {a : Addr} {xs : List V} (e : Sub H H') (h : SqL K H a xs) : SqL K H' a xs := by
  rcases h with (h | ⟨o, h⟩) | h
  · exact .inl (.inl (e _ _ h))
  · exact .inl (.inr ⟨o, e _ _ h⟩)
  · exact .inr h
theorem sub_sqT {K : PySem.W.Frag} {H H' : Hp} {a : Addr} {xs : List V} (e : Sub H H') (h : SqT K H a xs) : SqT K H' a xs := by
  rcases h with (h | ⟨o, h⟩) | h
  · exact .inl (.inl (e _ _ h))
  · exact .inl (.inr ⟨o, e _ _ h⟩)
  · exact .inr h

mutual
inductive Rp (K : PySem.W.Frag) (R : Hp) : V → D → Prop
  | non : Rp K R .non .non
  | bl (b : Bool) : Rp K R (.bl b) (.bl b)
  | int (i : Int) : Rp K R (.int i) (.int i)
  | str (s : Str) : Rp K R (.str s) (.str s)
  | tup {a : Addr} {xs : List V} {ds : List D} : SqT K R a xs → Rps K R xs ds → Rp K R (.ref a) (.tup ds)
  | lst {a : Addr} {xs : List V} {ds : List D} : R a = some (.lst xs) → Rps K R xs ds → Rp K R (.ref a) (.lst ds)
  | scr {a : Addr} {ns : List Int} : SqL K R a (ns.map V.int) → Rp K R (.ref a) (.scr ns)
  | brd (p : Addr) : Rp K R (.ref p) (.brd p)
inductive Rps (K : PySem.W.Frag) (R : Hp) : List V → List D → Prop
  | nil : Rps K R [] []
  | cons {v : V} {vs : List V} {d : D} {ds : List D} : Rp K R v d → Rps K R vs ds → Rps K R (v :: vs) (d :: ds)
end
section
variable {K : PySem.W.Frag} {R R' H : Hp}
mutual
theorem Rp.mono (e : Sub R R') : ∀ {v : V} (d : D), Rp K R v d → Rp K R' v d
  | _, .non, .non => .non
  | _, .bl _, .bl _ => .bl _
  | _, .int _, .int _ => .int _
  | _, .str _, .str _ => .str _
  | _, .tup ds, .tup h r => .tup (sub_sqT e h) (Rps.mono e ds r)
  | _, .lst ds, .lst h r => .lst (e _ _ h) (Rps.mono e ds r)
  | _, .scr _, .scr h => .scr (sub_sqL e h)
  | _, .brd _, .brd _ => .brd _
theorem Rps.mono (e : Sub R R') : ∀ {vs : List V} (ds : List D), Rps K R vs ds → Rps K R' vs ds
  | _, [], .nil => .nil
  | _, d :: ds, .cons h r => .cons (Rp.mono e d h) (Rps.mono e ds r)
end
theorem Rps.length : ∀ {vs : List V} {ds : List D}, Rps K R vs ds → vs.length = ds.length
  | _, _, .nil => rfl
  | _, _, .cons _ r => by rw [List.length_cons, List.length_cons, Rps.length r]
theorem Rps.get : ∀ {vs : List V} {ds : List D} {i : Nat} {d : D}, Rps K R vs ds → ds[i]? = some d → ∃ v, vs[i]? = some v ∧ Rp K R v d
  | _, _, _, _, .nil, e => by simp at e
  | _, _, 0, _, .cons h _, e => by
    simp at e
    subst e
    exact ⟨_, rfl, h⟩
  | _, _, i + 1, d, .cons _ r, e => by
    obtain ⟨v, h1, h2⟩ := Rps.get (i := i) (d := d) r (by simpa using e)
    exact ⟨v, by simpa using h1, h2⟩
theorem Rps.getV : ∀ {vs : List V} {ds : List D} {i : Nat} {v : V}, Rps K R vs ds → vs[i]? = some v → ∃ d, ds[i]? = some d ∧ Rp K R v d
  | _, _, _, _, .nil, e => by simp at e
  | _, _, 0, _, .cons h _, e => by
    simp at e
    subst e
    exact ⟨_, rfl, h⟩
  | _, _, i + 1, v, .cons _ r, e => by
    obtain ⟨d, h1, h2⟩ := Rps.getV (i := i) (v := v) r (by simpa using e)
    exact ⟨d, by simpa using h1, h2⟩
theorem Rps.append : ∀ {vs ws : List V} {ds es : List D}, Rps K R vs ds → Rps K R ws es → Rps K R (vs ++ ws) (ds ++ es)
  | _, _, _, _, .nil, s => s
  | _, _, _, _, .cons h r, s => .cons h (Rps.append r s)
theorem Rps.one {v : V} {d : D} (h : Rp K R v d) : Rps K R [v] [d] := .cons h .nil
theorem Rps.take : ∀ {vs : List V} {ds : List D} (n : Nat), Rps K R vs ds → Rps K R (vs.take n) (ds.take n)
  | _, _, 0, _ => .nil
  | _, _, _ + 1, .nil => .nil
  | _, _, n + 1, .cons h r => .cons h (Rps.take n r)
theorem Rps.drop : ∀ {vs : List V} {ds : List D} (n : Nat), Rps K R vs ds → Rps K R (vs.drop n) (ds.drop n)
  | _, _, 0, r => r
  | _, _, _ + 1, .nil => .nil
  | _, _, n + 1, .cons _ r => Rps.drop n r
theorem Rps.set {v : V} {d : D} (h : Rp K R v d) : ∀ {vs : List V} {ds : List D} (i : Nat), Rps K R vs ds → Rps K R (vs.set i v) (ds.set i d)
  | _, _, _, .nil => .nil
  | _, _, 0, .cons _ r => .cons h r
  | _, _, i + 1, .cons q r => .cons q (Rps.set h i r)
theorem Rps.cut {vs : List V} {ds : List D} (lo hi : Option Int) (r : Rps K R vs ds) : Rps K R (cutV vs lo hi) (cutL ds lo hi) := by
  unfold cutV cutL
  rw [r.length]
  exact (r.drop _).take _
theorem Rps.ints : ∀ {vs : List V} {ns : List Int}, Rps K R vs (ns.map .int) → vs = ns.map V.int
  | _, [], .nil => rfl
  | _, n :: ns, .cons (.int _) r => by rw [List.map_cons, Rps.ints r]
theorem Rps.of_ints : ∀ (ns : List Int), Rps K R (ns.map V.int) (ns.map .int)
  | [] => .nil
  | n :: ns => .cons (.int n) (Rps.of_ints ns)
theorem Rps.at {vs : List V} {ds : List D} {i : Int} {d : D} (r : Rps K R vs ds) (h : atI ds i = some d) : ∃ v, atI vs i = some v ∧ Rp K R v d := by
  unfold atI at h ⊢
  rw [r.length]
  cases q : ixN ds.length i with
  | none =>
    rw [q] at h
    cases h
  | some j =>
    rw [q] at h
    exact r.get h
end

/-- a def's entry: the heap, what stays of it, the object handed in -/
structure En where
  H0 : Hp
  R0 : Hp
  b0 : Ob

inductive SlR (K : PySem.W.Frag) (R H : Hp) : Sl → Option V → Prop
  | no {v : Option V} : SlR K R H .no v
  | vl {v : V} {d : D} : Rp K R v d → SlR K R H (.vl d) (some v)
  | ow {p : Addr} {xs : List V} {ds : List D} : H p = some (.lst xs) → Rps K R xs ds → R p = none → SlR K R H (.ow ds) (some (.ref p))
def OwnAt (δ : Env) (σ : L2.St) (i : Nat) (p : Addr) : Prop := ∃ ds, gt δ i = .ow ds ∧ σ[i]? = some (some (.ref p))

/-- the object: its own dict, its lists -/
structure BdA where
  dx : Addr
  ph : Addr
  pt : Addr
  pr : Addr
  pg : Addr
def BdA.own (a : BdA) (p : Addr) (ro : Bool) : List Addr := if ro then [p, a.ph, a.pt, a.pr] else [p, a.ph, a.pt]
def bdFs (a : BdA) : List (Str × V) := [("heads", .ref a.ph), ("tails", .ref a.pt), ("rows", .ref a.pr), ("goal", .ref a.pg)]
theorem bdFs_inj {a c : BdA} {bc : Addr} (h : HO.ins bc a.dx (bdFs a) = HO.ins bc c.dx (bdFs c)) : a = c := by
  obtain ⟨a1, a2, a3, a4, a5⟩ := a
  obtain ⟨c1, c2, c3, c4, c5⟩ := c
  unfold bdFs at h
  simp at h
  obtain ⟨h1, h2, h3, h4, h5⟩ := h
  subst h1 h2 h3 h4 h5
  rfl
/-- what the object may turn -/
def Bo (bc : Addr) (b : Ob) (H : Hp) (q : Addr) : Prop := ∃ p B a, b = some (p, B) ∧ H p = some (.ins bc a.dx (bdFs a)) ∧ q ∈ a.own p B.ro
structure BdR (K : PySem.W.Frag) (bc : Addr) (R H : Hp) (p : Addr) (B : Bd) (a : BdA) : Prop where
  ins : H p = some (.ins bc a.dx (bdFs a))
  hd : ∃ xs, H a.ph = some (.lst xs) ∧ Rps K R xs B.heads
  tl : ∃ xs, H a.pt = some (.lst xs) ∧ Rps K R xs B.tails
  rw : ∃ xs, H a.pr = some (.lst xs) ∧ Rps K R xs B.rows
  gl : ∃ xs, R a.pg = some (.lst xs) ∧ Rps K R xs B.goal
  fz : B.ro = false → ∃ xs, R a.pr = some (.lst xs)
  nr : ∀ q ∈ a.own p B.ro, R q = none
  nd : (a.own p B.ro).Nodup

/-- from (R, H) to (R', H'): new things come, the object's may turn, all else stands -/
structure Stp (bc : Addr) (b b' : Ob) (R H R' H' : Hp) : Prop where
  rr : Sub R R'
  old : ∀ q o, H q = some o → R' q = R q
  dom : ∀ q o, H q = some o → ∃ u, H' q = some u
  out : ∀ q o, H q = some o → ¬ Bo bc b H q → H' q = some o
  bo : ∀ q, Bo bc b' H' q → Bo bc b H q ∨ H q = none

/-- the slots and the heap bear the data -/
structure ER (K : PySem.W.Frag) (bc : Addr) (en : En) (δ : Env) (b : Ob) (σ : L2.St) (R H : Hp) : Prop where
  len : δ.length = σ.length
  sub : Sub R H
  stp : Stp bc en.b0 b en.R0 en.H0 R H
  sl : ∀ i v, σ[i]? = some v → SlR K R H (gt δ i) v
  own : ∀ i p, OwnAt δ σ i p → en.H0 p = none
  dis : ∀ i j p, OwnAt δ σ i p → OwnAt δ σ j p → i = j
  bd : ∀ p B, b = some (p, B) → ∃ a, BdR K bc R H p B a ∧ ∀ i q, OwnAt δ σ i q → q ∉ a.own p B.ro

theorem gt_st_same : ∀ {δ : Env} {i : Nat} {x : Sl}, i < δ.length → gt (st δ i x) i = x
  | [], _, _, h => absurd h (Nat.not_lt_zero _)
  | _ :: _, 0, _, _ => rfl
  | _ :: r, n + 1, x, h => gt_st_same (δ := r) (Nat.lt_of_succ_lt_succ h)
theorem gt_st_ne : ∀ {δ : Env} {i j : Nat} {x : Sl}, j ≠ i → gt (st δ i x) j = gt δ j
  | [], _, _, _, _ => rfl
  | _ :: _, 0, 0, _, h => absurd rfl h
  | _ :: _, 0, _ + 1, _, _ => rfl
  | _ :: _, _ + 1, 0, _, _ => rfl
  | _ :: r, n + 1, m + 1, x, h => gt_st_ne (δ := r) fun e => h (by rw [e])
theorem st_length : ∀ {δ : Env} {i : Nat} {x : Sl}, (st δ i x).length = δ.length
  | [], _, _ => rfl
  | _ :: _, 0, _ => rfl
  | _ :: r, n + 1, x => by
    show (st r n x).length + 1 = r.length + 1
    rw [st_length]
theorem st_st : ∀ {δ : Env} {i : Nat} {x y : Sl}, st (st δ i x) i y = st δ i y
  | [], _, _, _ => rfl
  | _ :: _, 0, _, _ => rfl
  | z :: r, n + 1, x, y => by
    show z :: st (st r n x) n y = z :: st r n y
    rw [st_st]
theorem gt_no : ∀ {δ : Env} {i : Nat}, δ.length ≤ i → gt δ i = .no
  | [], _, _ => rfl
  | _ :: _, 0, h => absurd h (by simp)
  | _ :: r, n + 1, h => gt_no (δ := r) (by simpa using h)
theorem gt_lt {δ : Env} {i : Nat} (h : gt δ i ≠ .no) : i < δ.length := by
  by_cases q : i < δ.length
  · exact q
  · exact absurd (gt_no (Nat.le_of_not_lt q)) h

section
variable {K : PySem.W.Frag} {bc : Addr} {en : En} {δ : Env} {b b' b1 b2 : Ob} {σ : L2.St} {R H R' H' R1 H1 R2 H2 : Hp} {p : Addr} {B : Bd} {a : BdA}

theorem ER.at (I : ER K bc en δ b σ R H) {i : Nat} (h : gt δ i ≠ .no) : ∃ v, σ[i]? = some v ∧ SlR K R H (gt δ i) v := by
  have hi : i < σ.length := by
    rw [← I.len]
    exact gt_lt h
  exact ⟨σ[i], List.getElem?_eq_getElem hi, I.sl i _ (List.getElem?_eq_getElem hi)⟩
theorem ER.val (I : ER K bc en δ b σ R H) {i : Nat} {d : D} (h : gt δ i = .vl d) : ∃ v, σ[i]? = some (some v) ∧ Rp K R v d := by
  obtain ⟨v, h1, h2⟩ := I.at (i := i) (by rw [h]; simp)
  rw [h] at h2
  cases h2 with
  | vl r => exact ⟨_, h1, r⟩
theorem ER.owl (I : ER K bc en δ b σ R H) {i : Nat} {ds : List D} (h : gt δ i = .ow ds) : ∃ p xs, σ[i]? = some (some (.ref p)) ∧ OwnAt δ σ i p ∧ H p = some (.lst xs) ∧ Rps K R xs ds ∧ R p = none := by
  obtain ⟨v, h1, h2⟩ := I.at (i := i) (by rw [h]; simp)
  rw [h] at h2
  cases h2 with
  | ow a c d => exact ⟨_, _, h1, ⟨ds, h, h1⟩, a, c, d⟩
theorem ER.ownH (I : ER K bc en δ b σ R H) {i : Nat} {q : Addr} (h : OwnAt δ σ i q) : ∃ xs, H q = some (.lst xs) ∧ R q = none := by
  obtain ⟨ds, h1, h2⟩ := h
  obtain ⟨p', xs, e1, _, e2, e3, e4⟩ := I.owl h1
  rw [h2] at e1
  cases e1
  exact ⟨xs, e2, e4⟩
theorem BdR.tr (r : BdR K bc R H p B a) : ∀ q ∈ a.own p B.ro, ∃ o, H q = some o := fun q hq => by
  unfold BdA.own at hq
  obtain ⟨x1, h1, _⟩ := r.hd
  obtain ⟨x2, h2, _⟩ := r.tl
  obtain ⟨x3, h3, _⟩ := r.rw
  have h0 := r.ins
  split at hq
  · simp only [List.mem_cons, List.not_mem_nil, or_false] at hq
    rcases hq with e | e | e | e
    · rw [e]; exact ⟨_, h0⟩
    · rw [e]; exact ⟨_, h1⟩
    · rw [e]; exact ⟨_, h2⟩
    · rw [e]; exact ⟨_, h3⟩
  · simp only [List.mem_cons, List.not_mem_nil, or_false] at hq
    rcases hq with e | e | e
    · rw [e]; exact ⟨_, h0⟩
    · rw [e]; exact ⟨_, h1⟩
    · rw [e]; exact ⟨_, h2⟩
theorem Bo.iff (r : BdR K bc R H p B a) {q : Addr} : Bo bc (some (p, B)) H q ↔ q ∈ a.own p B.ro := by
  constructor
  · rintro ⟨p', B', a', e, h, hq⟩
    cases e
    have e2 := bdFs_inj (Option.some.inj (r.ins.symm.trans h))
    rw [e2]
    exact hq
  · exact fun hq => ⟨p, B, a, rfl, r.ins, hq⟩
/-- what the object may turn is neither kept nor a slot's own -/
theorem ER.bo_no (I : ER K bc en δ b σ R H) {q : Addr} (h : Bo bc b H q) : R q = none ∧ (∀ i, ¬ OwnAt δ σ i q) ∧ ∃ o, H q = some o := by
  obtain ⟨p, B, a, e, hp, hq⟩ := h
  obtain ⟨a', r, n⟩ := I.bd p B e
  have e2 := bdFs_inj (Option.some.inj (r.ins.symm.trans hp))
  subst e2
  exact ⟨r.nr q hq, fun i o => n i q o hq, r.tr q hq⟩

theorem Stp.refl (h : Sub R H) : Stp bc b b R H R H := ⟨Sub.refl _, fun _ _ _ => rfl, fun _ o e => ⟨o, e⟩, fun _ _ e _ => e, fun _ h => .inl h⟩
theorem Stp.trans (x : Stp bc b b1 R H R1 H1) (y : Stp bc b1 b2 R1 H1 R2 H2) : Stp bc b b2 R H R2 H2 where
  rr := x.rr.trans y.rr
  old := fun q o e => by
    obtain ⟨u, hu⟩ := x.dom q o e
    exact (y.old q u hu).trans (x.old q o e)
  dom := fun q o e => by
    obtain ⟨u, hu⟩ := x.dom q o e
    exact y.dom q u hu
  out := fun q o e n => y.out q o (x.out q o e n) fun h => by
    rcases x.bo q h with z | z
    · exact n z
    · rw [e] at z; cases z
  bo := fun q h => by
    rcases y.bo q h with z | z
    · exact x.bo q z
    · refine .inr ?_
      cases e : H q with
      | none => rfl
      | some o =>
        obtain ⟨u, hu⟩ := x.dom q o e
        rw [hu] at z; cases z
theorem Stp.forget (x : Stp bc b b1 R H R1 H1) : Stp bc b none R H R1 H1 := ⟨x.rr, x.old, x.dom, x.out, fun _ ⟨_, _, _, e, _⟩ => nomatch e⟩
theorem ER.forget (I : ER K bc en δ b σ R H) : ER K bc en δ none σ R H := ⟨I.len, I.sub, I.stp.forget, I.sl, I.own, I.dis, fun _ _ e => nomatch e⟩

/-- a step keeps what the slots bear -/
theorem ER.go (I : ER K bc en δ b σ R H) (x : Stp bc b b' R H R' H') (hs : Sub R' H') (hb : ∀ p B, b' = some (p, B) → ∃ a, BdR K bc R' H' p B a) : ER K bc en δ b' σ R' H' where
  len := I.len
  sub := hs
  stp := I.stp.trans x
  sl := fun i v e => by
    have h := I.sl i v e
    cases hg : gt δ i with
    | no => exact .no
    | vl d =>
      rw [hg] at h
      cases h with
      | vl r => exact .vl (r.mono x.rr)
    | ow ds =>
      rw [hg] at h
      cases h with
      | ow h1 h2 h3 => exact .ow (x.out _ _ h1 fun z => (I.bo_no z).2.1 i ⟨ds, hg, e⟩) (h2.mono x.rr) ((x.old _ _ h1).trans h3)
  own := I.own
  dis := I.dis
  bd := fun p B e => by
    obtain ⟨a, r⟩ := hb p B e
    refine ⟨a, r, fun i q o hq => ?_⟩
    obtain ⟨xs, h1, _⟩ := I.ownH o
    rcases x.bo q (by rw [e]; exact (Bo.iff r).mpr hq) with z | z
    · exact (I.bo_no z).2.1 i o
    · rw [h1] at z; cases z

/-- new things only -/
structure Grow (R H R' H' : Hp) : Prop where
  rr : Sub R R'
  sub : Sub R' H'
  hh : Sub H H'
  old : ∀ q o, H q = some o → R' q = R q
theorem Grow.refl (h : Sub R H) : Grow R H R H := ⟨Sub.refl _, h, Sub.refl _, fun _ _ _ => rfl⟩
theorem Grow.new {p : Addr} {o : HO} (h : Sub R H) (n : H p = none) : Grow R H (upd R p o) (upd H p o) := by
  have nR : R p = none := h.fre n
  refine ⟨Sub.new nR, fun q u e => ?_, Sub.new n, fun q u e => ?_⟩
  · by_cases hq : q = p
    · subst hq
      rw [upd_same] at e ⊢
      exact e
    · rw [upd_ne hq] at e ⊢
      exact h q u e
  · rw [upd_ne (ne_of_none e n)]
/-- a new thing that is not kept -/
theorem Grow.loose {p : Addr} {o : HO} (h : Sub R H) (n : H p = none) : Grow R H R (upd H p o) :=
  ⟨Sub.refl _, fun q u e => Sub.new n q u (h q u e), Sub.new n, fun _ _ _ => rfl⟩
theorem Grow.trans (x : Grow R H R1 H1) (y : Grow R1 H1 R2 H2) : Grow R H R2 H2 :=
  ⟨x.rr.trans y.rr, y.sub, x.hh.trans y.hh, fun q o e => (y.old q o (x.hh q o e)).trans (x.old q o e)⟩
theorem BdR.grow (g : Grow R H R' H') (r : BdR K bc R H p B a) : BdR K bc R' H' p B a := by
  obtain ⟨x1, h1, q1⟩ := r.hd
  obtain ⟨x2, h2, q2⟩ := r.tl
  obtain ⟨x3, h3, q3⟩ := r.rw
  obtain ⟨x4, h4, q4⟩ := r.gl
  refine ⟨g.hh _ _ r.ins, ⟨x1, g.hh _ _ h1, q1.mono g.rr⟩, ⟨x2, g.hh _ _ h2, q2.mono g.rr⟩, ⟨x3, g.hh _ _ h3, q3.mono g.rr⟩, ⟨x4, g.rr _ _ h4, q4.mono g.rr⟩, fun e => ?_, fun q hq => ?_, r.nd⟩
  · obtain ⟨xs, h⟩ := r.fz e
    exact ⟨xs, g.rr _ _ h⟩
  · obtain ⟨o, ho⟩ := r.tr q hq
    exact (g.old q o ho).trans (r.nr q hq)
theorem ER.stpG (I : ER K bc en δ b σ R H) (g : Grow R H R' H') : Stp bc b b R H R' H' :=
  ⟨g.rr, g.old, fun q o e => ⟨o, g.hh q o e⟩, fun q o e _ => g.hh q o e, fun q h => .inl (by
    obtain ⟨p, B, a, e, hp, hq⟩ := h
    obtain ⟨a', r, _⟩ := I.bd p B e
    have e2 := bdFs_inj (Option.some.inj ((g.hh _ _ r.ins).symm.trans hp))
    subst e2
    exact ⟨p, B, a', e, r.ins, hq⟩)⟩
theorem ER.grow (I : ER K bc en δ b σ R H) (g : Grow R H R' H') : ER K bc en δ b σ R' H' :=
  I.go (I.stpG g) g.sub fun p B e => by
    obtain ⟨a, r, _⟩ := I.bd p B e
    exact ⟨a, r.grow g⟩

/-- a list of nobody's: new since the entry, not kept, no slot's, not the object's -/
structure Fre (bc : Addr) (en : En) (δ : Env) (b : Ob) (σ : L2.St) (R H : Hp) (p : Addr) : Prop where
  h0 : en.H0 p = none
  nr : R p = none
  no : ∀ i, ¬ OwnAt δ σ i p
  nb : ¬ Bo bc b H p
theorem ER.freN (I : ER K bc en δ b σ R H) {q : Addr} (n : H q = none) : Fre bc en δ b σ R H q where
  h0 := by
    cases e : en.H0 q with
    | none => rfl
    | some o =>
      obtain ⟨u, hu⟩ := I.stp.dom q o e
      rw [n] at hu; cases hu
  nr := I.sub.fre n
  no := fun i o => by
    obtain ⟨xs, h, _⟩ := I.ownH o
    rw [n] at h; cases h
  nb := fun z => by
    obtain ⟨_, _, o, h⟩ := I.bo_no z
    rw [n] at h; cases h
/-- still nobody's behind a step from where it was untracked .. -/
theorem ER.freG (I : ER K bc en δ b σ R H) {q : Addr} (n : H q = none) (x : Stp bc b b' R H R' H') (nr : R' q = none) (nb : ¬ Bo bc b' H' q) : Fre bc en δ b' σ R' H' q := ⟨(I.freN n).h0, nr, (I.freN n).no, nb⟩

/-- a list is kept from now on -/
theorem ER.keep (I : ER K bc en δ b σ R H) {q : Addr} {o : HO} (f : Fre bc en δ b σ R H q) (hq : H q = some o) : ER K bc en δ b σ (upd R q o) H := by
  have rr : Sub R (upd R q o) := Sub.new f.nr
  refine ⟨I.len, fun c u e => ?_, ⟨I.stp.rr.trans rr, fun c u e => ?_, I.stp.dom, I.stp.out, I.stp.bo⟩, fun i v e => ?_, I.own, I.dis, fun p B e => ?_⟩
  · by_cases hc : c = q
    · subst hc
      rw [upd_same] at e
      rw [hq]
      exact e
    · rw [upd_ne hc] at e
      exact I.sub c u e
  · rw [upd_ne (ne_of_none e f.h0)]
    exact I.stp.old c u e
  · have h := I.sl i v e
    cases hg : gt δ i with
    | no => exact .no
    | vl d =>
      rw [hg] at h
      cases h with
      | vl r => exact .vl (r.mono rr)
    | ow ds =>
      rw [hg] at h
      cases h with
      | ow h1 h2 h3 =>
        refine .ow h1 (h2.mono rr) ?_
        rw [upd_ne]
        · exact h3
        · rintro rfl
          exact f.no i ⟨ds, hg, e⟩
  · obtain ⟨a, r, n⟩ := I.bd p B e
    obtain ⟨x1, h1, q1⟩ := r.hd
    obtain ⟨x2, h2, q2⟩ := r.tl
    obtain ⟨x3, h3, q3⟩ := r.rw
    obtain ⟨x4, h4, q4⟩ := r.gl
    refine ⟨a, ⟨r.ins, ⟨x1, h1, q1.mono rr⟩, ⟨x2, h2, q2.mono rr⟩, ⟨x3, h3, q3.mono rr⟩, ⟨x4, rr _ _ h4, q4.mono rr⟩, fun z => ?_, fun c hc => ?_, r.nd⟩, n⟩
    · obtain ⟨xs, h⟩ := r.fz z
      exact ⟨xs, rr _ _ h⟩
    · rw [upd_ne]
      · exact r.nr c hc
      · rintro rfl
        exact f.nb (by rw [e]; exact (Bo.iff r).mpr hc)

/-! ### stores -/
theorem OwnAt.st_ne {i j : Nat} {x : Sl} {v : Option V} {q : Addr} (h : j ≠ i) : OwnAt (st δ i x) (σ.set i v) j q ↔ OwnAt δ σ j q := by
  unfold OwnAt
  rw [gt_st_ne h, List.getElem?_set_ne (Ne.symm h)]
theorem OwnAt.st_vl {i : Nat} {x : Sl} {v : Option V} {q : Addr} (hx : ∀ ds, x ≠ .ow ds) : ¬ OwnAt (st δ i x) (σ.set i v) i q := by
  rintro ⟨ds, h, _⟩
  by_cases hi : i < δ.length
  · rw [gt_st_same hi] at h
    exact hx ds h
  · rw [gt_no (by rw [st_length]; omega)] at h
    cases h
theorem ER.set (I : ER K bc en δ b σ R H) {i : Nat} {x : Sl} {v : Option V} (h : SlR K R H x v) (hx : ∀ ds, x ≠ .ow ds) : ER K bc en (st δ i x) b (σ.set i v) R H := by
  have back : ∀ j q, OwnAt (st δ i x) (σ.set i v) j q → OwnAt δ σ j q := fun j q o => by
    by_cases hj : j = i
    · subst hj
      exact absurd o (OwnAt.st_vl hx)
    · exact (OwnAt.st_ne hj).mp o
  refine ⟨by rw [st_length, List.length_set]; exact I.len, I.sub, I.stp, fun j u e => ?_, fun j q o => I.own j q (back j q o), fun j k q o1 o2 => I.dis j k q (back j q o1) (back k q o2), fun p B e => ?_⟩
  · by_cases hj : j = i
    · subst hj
      by_cases hl : j < σ.length
      · rw [List.getElem?_set_self hl] at e
        cases e
        rw [gt_st_same (by rw [I.len]; exact hl)]
        exact h
      · rw [List.getElem?_eq_none (by simpa using hl)] at e
        cases e
    · rw [List.getElem?_set_ne (Ne.symm hj)] at e
      rw [gt_st_ne hj]
      exact I.sl j u e
  · obtain ⟨a, r, n⟩ := I.bd p B e
    exact ⟨a, r, fun j q o => n j q (back j q o)⟩
theorem ER.setV (I : ER K bc en δ b σ R H) {i : Nat} {d : D} {v : V} (h : Rp K R v d) : ER K bc en (st δ i (.vl d)) b (σ.set i (some v)) R H := I.set (.vl h) fun _ z => nomatch z
theorem ER.setN (I : ER K bc en δ b σ R H) {i : Nat} {v : Option V} : ER K bc en (st δ i .no) b (σ.set i v) R H := I.set .no fun _ z => nomatch z
theorem ER.setO (I : ER K bc en δ b σ R H) {i : Nat} {p : Addr} {xs : List V} {ds : List D} (f : Fre bc en δ b σ R H p) (h : H p = some (.lst xs)) (r : Rps K R xs ds) : ER K bc en (st δ i (.ow ds)) b (σ.set i (some (.ref p))) R H := by
  have back : ∀ j q, OwnAt (st δ i (.ow ds)) (σ.set i (some (.ref p))) j q → (j = i ∧ q = p) ∨ (j ≠ i ∧ OwnAt δ σ j q) := fun j q o => by
    by_cases hj : j = i
    · refine .inl ⟨hj, ?_⟩
      subst hj
      obtain ⟨es, _, e⟩ := o
      by_cases hl : j < σ.length
      · rw [List.getElem?_set_self hl] at e
        cases e
        rfl
      · rw [List.getElem?_eq_none (by simpa using hl)] at e
        cases e
    · exact .inr ⟨hj, (OwnAt.st_ne hj).mp o⟩
  refine ⟨by rw [st_length, List.length_set]; exact I.len, I.sub, I.stp, fun j u e => ?_, fun j q o => ?_, fun j k q o1 o2 => ?_, fun p' B e => ?_⟩
  · by_cases hj : j = i
    · subst hj
      by_cases hl : j < σ.length
      · rw [List.getElem?_set_self hl] at e
        cases e
        rw [gt_st_same (by rw [I.len]; exact hl)]
        exact .ow h r f.nr
      · rw [List.getElem?_eq_none (by simpa using hl)] at e
        cases e
    · rw [List.getElem?_set_ne (Ne.symm hj)] at e
      rw [gt_st_ne hj]
      exact I.sl j u e
  · rcases back j q o with ⟨_, e⟩ | ⟨_, o'⟩
    · rw [e]; exact f.h0
    · exact I.own j q o'
  · rcases back j q o1 with ⟨e1, e2⟩ | ⟨_, o1'⟩
    · rcases back k q o2 with ⟨e3, _⟩ | ⟨_, o2'⟩
      · rw [e1, e3]
      · rw [e2] at o2'; exact absurd o2' (f.no k)
    · rcases back k q o2 with ⟨_, e4⟩ | ⟨_, o2'⟩
      · rw [e4] at o1'; exact absurd o1' (f.no j)
      · exact I.dis j k q o1' o2'
  · obtain ⟨a, r', n⟩ := I.bd p' B e
    refine ⟨a, r', fun j q o hq => ?_⟩
    rcases back j q o with ⟨_, e2⟩ | ⟨_, o'⟩
    · rw [e2] at hq
      exact f.nb (by rw [e]; exact (Bo.iff r').mpr hq)
    · exact n j q o' hq
/-- the own list of a slot is turned -/
theorem ER.turn (I : ER K bc en δ b σ R H) {i : Nat} {p : Addr} {xs : List V} {ds : List D} (o : OwnAt δ σ i p) (r : Rps K R xs ds) : ER K bc en (st δ i (.ow ds)) b σ R (upd H p (.lst xs)) := by
  obtain ⟨zs, hp, nR⟩ := I.ownH o
  have h0 := I.own i p o
  obtain ⟨es, hg, hσ⟩ := id o
  have hi : i < δ.length := gt_lt (by rw [hg]; simp)
  have nbo : ∀ q, Bo bc b H q → q ≠ p := fun q z e => by
    subst e
    exact (I.bo_no z).2.1 i o
  have bo' : ∀ q, Bo bc b (upd H p (.lst xs)) q → Bo bc b H q := fun q ⟨p', B, a, e, h, hq⟩ => by
    by_cases hz : p' = p
    · subst hz
      rw [upd_same] at h
      cases h
    · rw [upd_ne hz] at h
      exact ⟨p', B, a, e, h, hq⟩
  have back : ∀ j q, OwnAt (st δ i (.ow ds)) σ j q → OwnAt δ σ j q := fun j q ⟨fs, h1, h2⟩ => by
    by_cases hj : j = i
    · subst hj
      exact ⟨es, hg, h2⟩
    · rw [gt_st_ne hj] at h1
      exact ⟨fs, h1, h2⟩
  refine ⟨by rw [st_length]; exact I.len, fun c u e => ?_, ⟨I.stp.rr, I.stp.old, fun c u e => ?_, fun c u e n => ?_, fun c z => I.stp.bo c (bo' c z)⟩, fun j u e => ?_, fun j q o' => I.own j q (back j q o'), fun j k q o1 o2 => I.dis j k q (back j q o1) (back k q o2), fun p' B e => ?_⟩
  · rw [upd_ne (ne_of_none e nR)]
    exact I.sub c u e
  · by_cases hc : c = p
    · subst hc
      exact ⟨_, upd_same⟩
    · rw [upd_ne hc]
      exact I.stp.dom c u e
  · rw [upd_ne (ne_of_none e h0)]
    exact I.stp.out c u e n
  · by_cases hj : j = i
    · subst hj
      rw [hσ] at e
      cases e
      rw [gt_st_same hi]
      exact .ow upd_same r nR
    · rw [gt_st_ne hj]
      have h := I.sl j u e
      cases hg2 : gt δ j with
      | no => exact .no
      | vl d =>
        rw [hg2] at h
        cases h with
        | vl r => exact .vl r
      | ow fs =>
        rw [hg2] at h
        cases h with
        | ow h1 h2 h3 =>
          refine .ow ?_ h2 h3
          rw [upd_ne]
          · exact h1
          · rintro rfl
            exact hj (I.dis j i _ ⟨fs, hg2, e⟩ o)
  · obtain ⟨a, r', n⟩ := I.bd p' B e
    have hn : ∀ q ∈ a.own p' B.ro, q ≠ p := fun q hq z => n i q (by rw [z]; exact o) hq
    obtain ⟨x1, h1, q1⟩ := r'.hd
    obtain ⟨x2, h2, q2⟩ := r'.tl
    obtain ⟨x3, h3, q3⟩ := r'.rw
    have m0 : p' ∈ a.own p' B.ro := by unfold BdA.own; split <;> simp
    have m1 : a.ph ∈ a.own p' B.ro := by unfold BdA.own; split <;> simp
    have m2 : a.pt ∈ a.own p' B.ro := by unfold BdA.own; split <;> simp
    have m3 : a.pr ≠ p := by
      by_cases hz : B.ro = true
      · exact hn _ (by unfold BdA.own; rw [if_pos hz]; simp)
      · obtain ⟨ys, hy⟩ := r'.fz (by simpa using hz)
        exact ne_of_none hy nR
    refine ⟨a, ⟨?_, ⟨x1, ?_, q1⟩, ⟨x2, ?_, q2⟩, ⟨x3, ?_, q3⟩, r'.gl, r'.fz, r'.nr, r'.nd⟩, fun j q o' => n j q (back j q o')⟩
    · rw [upd_ne (hn _ m0)]; exact r'.ins
    · rw [upd_ne (hn _ m1)]; exact h1
    · rw [upd_ne (hn _ m2)]; exact h2
    · rw [upd_ne m3]; exact h3
/-- the own list of a slot is kept from now on -/
theorem ER.freeze (I : ER K bc en δ b σ R H) {i : Nat} {ds : List D} (h : gt δ i = .ow ds) : ∃ p xs, σ[i]? = some (some (.ref p)) ∧ R p = none ∧ H p = some (.lst xs) ∧ Rps K (upd R p (.lst xs)) xs ds ∧
    ER K bc en (st δ i (.vl (.lst ds))) b σ (upd R p (.lst xs)) H := by
  obtain ⟨p, xs, e1, o, e2, e3, e4⟩ := I.owl h
  have hi : i < δ.length := gt_lt (by rw [h]; simp)
  have J : ER K bc en (st δ i .no) b (σ.set i none) R H := I.setN
  have f : Fre bc en (st δ i .no) b (σ.set i none) R H p := by
    refine ⟨I.own i p o, e4, fun j o' => ?_, fun z => (I.bo_no z).2.1 i o⟩
    by_cases hj : j = i
    · subst hj
      exact OwnAt.st_vl (x := .no) (fun _ z => by cases z) o'
    · exact hj (I.dis j i p ((OwnAt.st_ne hj).mp o') o)
  have J2 := J.keep f e2
  have r2 : Rps K (upd R p (.lst xs)) xs ds := e3.mono (Sub.new e4)
  have J3 := J2.setV (i := i) (d := .lst ds) (v := .ref p) (.lst upd_same r2)
  have a1 : st (st δ i .no) i (.vl (.lst ds)) = st δ i (.vl (.lst ds)) := st_st
  have a2 : (σ.set i none).set i (some (.ref p)) = σ := by
    rw [List.set_set]
    obtain ⟨hl, he⟩ := List.getElem?_eq_some_iff.mp e1
    rw [← he, List.set_getElem_self]
  rw [a1, a2] at J3
  exact ⟨p, xs, e1, e4, e2, r2, J3⟩
end
end LK

/-! What a text of the language leans on; operations. -/
namespace LK
open PySem PySem.Spec PyProof.Rows L2

structure Sy where
  G : Gm
  M : Nms
  ca : Nat → Addr
  bc : Addr
/-- what a call leaves -/
def Out (K : PySem.W.Frag) (S : Sy) (f : Nat) (en : En) (d : D) (b' : Ob) (v : V) (R' H' : Hp) : Prop :=
  if S.G.fr f = true then ∃ ds, d = .lst ds ∧ ER K S.bc en [.ow ds] b' [some v] R' H' else ER K S.bc en [.vl d] b' [some v] R' H'
/-- a def's promise over the heap, from its promise on data -/
def spOf (K : PySem.W.Frag) (S : Sy) (f : Nat) : Sp := fun vs H Q E => ∃ (ds : List D) (b : Ob) (R : Hp) (Q' : D → Ob → Prop) (E' : Nat → Prop),
  ER K S.bc ⟨H, R, b⟩ (ds.map .vl) b (vs.map some) R H ∧ S.G.sp f ds b Q' E' ∧ (∀ d b' v R' H', Out K S f ⟨H, R, b⟩ d b' v R' H' → Q' d b' → Q v H') ∧
  (∀ c R' H', S.M.hc c = true → ER K S.bc ⟨H, R, b⟩ [] none [] R' H' → E' c → E (.ref (S.ca c)) none H')

def bltNames : List Str := ["abs", "len", "tuple", "list", "int", "str", "sum", "isinstance", "bool", "max", "min", "range", "zip", "ValueError"]
structure ExcF (K : PySem.W.Frag) (mg : Str → Option Value) (S : Sy) (c : Nat) : Prop where
  g : mg (S.M.ex c) = some (.ref (S.ca c))
  x : PySem.W.excIn K (S.ca c) [.type "ValueError", .type "Exception", .type "BaseException", .type "object"] "ValueError.__new__" = true
  k : PySem.W.keepIn K (.ref (S.ca c)) = true
  b : PySem.W.subIn K (.ref (S.ca c)) (.type "BaseException") = some true
  t : PySem.W.typeIn K (.ref (S.ca c)) = some (.type "type")
  i : ExcC K (S.ca c)
  v : PySem.W.kitOne K (.ref (S.ca c)) (.type "ValueError") = some true
structure FnF (P : Program) (w : World) (K : PySem.W.Frag) (mg : Str → Option Value) (base : Heap) (S : Sy) (lv f : Nat) (a : Addr) : Prop where
  k : PySem.W.keepIn K (.ref a) = true
  ok : ∃ fd ps, Binds K fd ps [] ∧ FnOk P w K mg base (L2.CX P w) lv a fd ps (spOf K S f)
/-- the object's class -/
structure BdF (P : Program) (w : World) (K : PySem.W.Frag) (mg : Str → Option Value) (base : Heap) (S : Sy) (lv : Nat) : Prop where
  g : mg S.M.bd = some (.ref S.bc)
  c : Cls K S.bc
  n : ∀ f, NoAttr K S.bc (flName f)
  mak : ∃ fi fdi, Mk K S.bc fi ∧ Binds K fdi ["self", "heads", "tails", "rows", "goal"] [] ∧ FnOk P w K mg base (L2.CX P w) lv fi fdi ["self", "heads", "tails", "rows", "goal"]
    (fun vs H Q _ => ∃ p dx h t r g, vs = [.ref p, h, t, r, g] ∧ H p = some (.ins S.bc dx []) ∧ Q .non (upd H p (.ins S.bc dx [("heads", h), ("tails", t), ("rows", r), ("goal", g)])))
structure Facts (P : Program) (w : World) (K : PySem.W.Frag) (mg : Str → Option Value) (base : Heap) (S : Sy) (lv : Nat) : Prop where
  fn : ∀ f, S.M.hf f = true → ∃ a, mg (S.M.fn f) = some (.ref a) ∧ FnF P w K mg base S lv f a
  mt : ∀ f, S.M.hm f = true → (∀ a : BdA, (bdFs a).lookup (S.M.fn f) = none) ∧ ∃ a, Meth K S.bc (S.M.fn f) a ∧ FnF P w K mg base S lv f a
  bl : ∀ x ∈ bltNames, mg x = none
  gl : ∀ g, S.M.hg g = true → ∃ u v, mg (S.M.gl g) = some u ∧ RelV v u ∧ Rp K (fun _ => none) v (S.G.gc g)
  ex : ∀ c, S.M.hc c = true → ExcF K mg S c
  em : ∀ c d, S.M.hc c = true → S.M.hc d = true → PySem.W.exmOne K (.ref (S.ca c)) (.ref (S.ca d)) = some (subC c d)
  bd : S.M.hb = true → BdF P w K mg base S lv
/-- the context of a body -/
structure CK (S : Sy) (N : List Str) (sc : Scope) (X : Cx) (W : WX) (lv : Nat) : Prop where
  fs : Facts X.prog X.w X.K X.mg X.base S lv
  calm : X.calm = true
  n : X.N = N
  nd : N.Nodup
  sc : X.env.scope = sc
  tk : Takes X W
  room : Room (lv + 1) X.A

theorem peImp {X : Cx} {e : Expr} {t t' : TE} (h : PE X e t) (i : ∀ σ H Q, t' σ H Q → t σ H Q) : PE X e t' := ⟨fun pins s σ H Q I hw => h.run pins s σ H Q I (i σ H Q hw)⟩
theorem ptImp {X : Cx} {e : Expr} {t t' : TT} (h : PT X e t) (i : ∀ σ H Q, t' σ H Q → t σ H Q) : PT X e t' := ⟨fun pins s σ H Q I hw => h.run pins s σ H Q I (i σ H Q hw)⟩
theorem paImp {X : Cx} {e : List Expr} {t t' : TA} (h : PA X e t) (i : ∀ σ H Q, t' σ H Q → t σ H Q) : PA X e t' := ⟨fun pos pins s σ H Q I hw => h.run pos pins s σ H Q I (i σ H Q hw)⟩
theorem psImp {X : Cx} {e : Stmt} {t t' : TS} (h : PS X e t) (i : ∀ D σ H, t' D σ H → t D σ H) : PS X e t' := ⟨fun pins s σ H D I hw => h.run pins s σ H D I (i D σ H hw)⟩
theorem pssImp {X : Cx} {e : List Stmt} {t t' : TS} (h : PSs X e t) (i : ∀ D σ H, t' D σ H → t D σ H) : PSs X e t' := ⟨fun pins s σ H D I hw => h.run pins s σ H D I (i D σ H hw)⟩
theorem piImp {X : Cx} {tg e : Expr} {t t' : TI} (h : PI X tg e t) (i : ∀ σ H R, t' σ H R → t σ H R) : PI X tg e t' := ⟨fun pins s σ H R I hw => h.run pins s σ H R I (i σ H R hw)⟩
theorem opImp {X : Cx} {f : Value → Value → Sem Value} {r r' : R2} (h : OpR X f r) (i : ∀ x y H Q, r' x y H Q → r x y H Q) : OpR X f r' := fun pins s σ H x y v u Q I rx ry q => h pins s σ H x y v u Q I rx ry (i _ _ _ _ q)
theorem callImp {X : Cx} {f : Value} {r r' : List V → Hp → VK → Prop} (h : CallR X f r) (i : ∀ xs H Q, r' xs H Q → r xs H Q) : CallR X f r' := fun pins s σ H xs us Q I rx q => h pins s σ H xs us Q I rx (i _ _ _ q)

/-! ### operations -/
/-- an operation on one datum, on two -/
def r1 (K : PySem.W.Frag) (o : O1) : V → Hp → VK → Prop := fun x H Q => ∃ (R : Hp) (dx : D) (Q' : D → Prop), Sub R H ∧ Rp K R x dx ∧ w1 o dx Q' ∧ ∀ z v R' H', Grow R H R' H' → Rp K R' v z → Q' z → Q v H'
def r2 (K : PySem.W.Frag) (o : O2) : R2 := fun x y H Q => ∃ (R : Hp) (dx dy : D) (Q' : D → Prop), Sub R H ∧ Rp K R x dx ∧ Rp K R y dy ∧ w2 o dx dy Q' ∧ ∀ z v R' H', Grow R H R' H' → Rp K R' v z → Q' z → Q v H'
/-- .. whose answer is a new list -/
def r1f (K : PySem.W.Frag) (o : O1) : V → Hp → VK → Prop := fun x H Q => ∃ (R : Hp) (dx : D) (Q' : D → Prop), Sub R H ∧ Rp K R x dx ∧ w1 o dx Q' ∧ ∀ ds xs p, H p = none → Rps K R xs ds → Q' (.lst ds) → Q (.ref p) (upd H p (.lst xs))
def r2f (K : PySem.W.Frag) (o : O2) : R2 := fun x y H Q => ∃ (R : Hp) (dx dy : D) (Q' : D → Prop), Sub R H ∧ Rp K R x dx ∧ Rp K R y dy ∧ w2 o dx dy Q' ∧ ∀ ds xs p, H p = none → Rps K R xs ds → Q' (.lst ds) → Q (.ref p) (upd H p (.lst xs))

theorem big_ok {n : Nat} (h : n ≤ 1000000) : n ≤ sizeLine := Nat.le_trans h (by decide)
theorem big_lt {n : Nat} (h : n < 1000000) : n < sizeLine := Nat.lt_of_lt_of_le h (by decide)
theorem Sub.list {K : PySem.W.Frag} {R H : Hp} (e : Sub R H) {a : Addr} {xs : List V} (h : R a = some (.lst xs)) : SqL K H a xs := SqL.of (e _ _ h)

section
variable {X : Cx} {pins : List (Addr × Obj)} {s : Shared} {σ : L2.St} {H : Hp}
theorem MulOk.ok {i j : Int} (h : MulOk i j) : IntMulOk i j := by
  rcases h with h | h
  · exact CMul.ok h
  · exact CMulW.ok h
theorem opM : OpR X (binaryOp .Mult) (rI MulOk fun i j => .int (i * j)) := opI fun _ _ _ _ _ _ _ hc q => mul_int q hc.ok
theorem opD : OpR X (binaryOp .FloorDiv) (rI (fun _ j => DivOk j) fun i j => .int (i.fdiv j)) := opI fun i j _ _ _ _ _ hc q => floordiv_int hc.1 q (.inl (PyProof.noPylong_of_log2 hc.2))

/-- two ints in, a datum out -/
theorem ints2 {f : Value → Value → Sem Value} {C : Int → Int → Prop} {g : Int → Int → V} {gd : Int → Int → D} (h : OpR X f (rI C g)) (hg : ∀ (R : Hp) i j, Rp X.K R (g i j) (gd i j)) {o : O2}
    (hw : ∀ x y Q, w2 o x y Q → ∃ i j, x = .int i ∧ y = .int j ∧ C i j ∧ Q (gd i j)) : OpR X f (r2 X.K o) := opImp h fun x y H Q ⟨R, dx, dy, Q', hs, hx, hy, hq, k⟩ => by
  obtain ⟨i, j, rfl, rfl, hc, hq⟩ := hw _ _ _ hq
  cases hx
  cases hy
  exact ⟨i, j, rfl, rfl, hc, k _ _ R H (Grow.refl hs) (hg R i j) hq⟩
theorem ints20 {f : Value → Value → Sem Value} {g : Int → Int → V} {gd : Int → Int → D} (h : OpR X f (rI0 g)) (hg : ∀ (R : Hp) i j, Rp X.K R (g i j) (gd i j)) {o : O2}
    (hw : ∀ x y Q, w2 o x y Q → ∃ i j, x = .int i ∧ y = .int j ∧ Q (gd i j)) : OpR X f (r2 X.K o) := opImp h fun x y H Q ⟨R, dx, dy, Q', hs, hx, hy, hq, k⟩ => by
  obtain ⟨i, j, rfl, rfl, hz⟩ := hw _ _ _ hq
  cases hx
  cases hy
  exact ⟨i, j, rfl, rfl, k _ _ R H (Grow.refl hs) (hg R i j) hz⟩
theorem b_add : OpR X (binaryOp .Add) (r2 X.K .add) := ints20 op_add (fun _ _ _ => .int _) fun x y Q h => by
  cases x <;> cases y <;> first | exact ⟨_, _, rfl, rfl, h⟩ | exact h.elim
theorem b_sub : OpR X (binaryOp .Sub) (r2 X.K .sub) := ints20 op_sub (fun _ _ _ => .int _) fun x y Q h => by
  cases x <;> cases y <;> first | exact ⟨_, _, rfl, rfl, h⟩ | exact h.elim
theorem b_mul : OpR X (binaryOp .Mult) (r2 X.K .mul) := ints2 opM (fun _ _ _ => .int _) fun x y Q h => by
  cases x <;> cases y <;> first | exact ⟨_, _, rfl, rfl, h⟩ | exact h.elim
theorem b_fdiv : OpR X (binaryOp .FloorDiv) (r2 X.K .fdiv) := ints2 opD (fun _ _ _ => .int _) fun x y Q h => by
  cases x <;> cases y <;> first | exact ⟨_, _, rfl, rfl, h⟩ | exact h.elim
theorem b_mod : OpR X (binaryOp .Mod) (r2 X.K .mod) := ints2 op_modN (fun _ _ _ => .int _) fun x y Q h => by
  cases x <;> cases y <;> first | exact ⟨_, _, rfl, rfl, h⟩ | exact h.elim
theorem b_pow : OpR X (binaryOp .Pow) (r2 X.K .pow) := ints2 op_pow (fun _ _ _ => .int _) fun x y Q h => by
  cases x <;> cases y <;> first | exact ⟨_, _, rfl, rfl, h⟩ | exact h.elim
theorem b_lt : OpR X (compareOp .Lt) (r2 X.K .lt) := ints20 op_lt (fun _ _ _ => .bl _) fun x y Q h => by
  cases x <;> cases y <;> first | exact ⟨_, _, rfl, rfl, h⟩ | exact h.elim
theorem b_le : OpR X (compareOp .LtE) (r2 X.K .le) := ints20 op_le (fun _ _ _ => .bl _) fun x y Q h => by
  cases x <;> cases y <;> first | exact ⟨_, _, rfl, rfl, h⟩ | exact h.elim
theorem b_gt : OpR X (compareOp .Gt) (r2 X.K .gt) := ints20 op_gt (fun _ _ _ => .bl _) fun x y Q h => by
  cases x <;> cases y <;> first | exact ⟨_, _, rfl, rfl, h⟩ | exact h.elim
theorem b_ge : OpR X (compareOp .GtE) (r2 X.K .ge) := ints20 op_ge (fun _ _ _ => .bl _) fun x y Q h => by
  cases x <;> cases y <;> first | exact ⟨_, _, rfl, rfl, h⟩ | exact h.elim
theorem w2_cat {x y : D} {Q : D → Prop} (h : w2 .cat x y Q) : ∃ a b, x = .lst a ∧ y = .lst b ∧ a.length + b.length ≤ 1000000 ∧ Q (.lst (a ++ b)) := by
  cases x <;> cases y <;> first | exact ⟨_, _, rfl, rfl, h.1, h.2⟩ | exact h.elim
theorem b_catf : OpR X (binaryOp .Add) (r2f X.K .cat) := opImp op_cat fun x y H Q ⟨R, dx, dy, Q', hs, hx, hy, hq, k⟩ => by
  obtain ⟨a, b, rfl, rfl, hl, hq⟩ := w2_cat hq
  cases hx with
  | lst h1 q1 =>
    cases hy with
    | lst h2 q2 => exact ⟨_, _, _, _, rfl, rfl, hs _ _ h1, hs _ _ h2, big_ok (by rw [q1.length, q2.length]; exact hl), fun p hp => k _ _ p hp (q1.append q2) hq⟩
theorem w2_tcat {x y : D} {Q : D → Prop} (h : w2 .tcat x y Q) : ∃ a b, x = .tup a ∧ y = .tup b ∧ a.length + b.length ≤ 1000000 ∧ Q (.tup (a ++ b)) := by
  cases x <;> cases y <;> first | exact ⟨_, _, rfl, rfl, h.1, h.2⟩ | exact h.elim
theorem rps_nil {K : PySem.W.Frag} {R : Hp} {ds : List D} (h : Rps K R [] ds) : ds = [] := by
  cases h
  rfl
theorem b_tcat : OpR X (binaryOp .Add) (r2 X.K .tcat) := opImp op_catA fun x y H Q ⟨R, dx, dy, Q', hs, hx, hy, hq, k⟩ => by
  obtain ⟨a, b, rfl, rfl, hl, hq⟩ := w2_tcat hq
  cases hx with
  | @tup p xs _ h1 q1 =>
    cases hy with
    | @tup q ys _ h2 q2 =>
      refine ⟨p, q, xs, ys, rfl, rfl, sub_sqT hs h1, sub_sqT hs h2, big_ok (by rw [q1.length, q2.length]; exact hl), fun e => ?_, fun _ e => ?_, fun _ _ r hr => ?_⟩
      · subst e
        rw [rps_nil q1, List.nil_append] at hq
        exact k _ _ R H (Grow.refl hs) (.tup h2 q2) hq
      · subst e
        rw [rps_nil q2, List.append_nil] at hq
        exact k _ _ R H (Grow.refl hs) (.tup h1 q1) hq
      · have g : Grow R H (upd R r (.tup (xs ++ ys))) (upd H r (.tup (xs ++ ys))) := Grow.new hs hr
        exact k _ _ _ _ g (.tup (SqT.of upd_same) ((q1.append q2).mono g.rr)) hq
theorem w2_scat {x y : D} {Q : D → Prop} (h : w2 .scat x y Q) : ∃ a b, x = .str a ∧ y = .str b ∧ a.length + b.length ≤ 1000000 ∧ Q (.str (a ++ b)) := by
  cases x <;> cases y <;> first | exact ⟨_, _, rfl, rfl, h.1, h.2⟩ | exact h.elim
theorem b_scat : OpR X (binaryOp .Add) (r2 X.K .scat) := opImp op_add_str fun x y H Q ⟨R, dx, dy, Q', hs, hx, hy, hq, k⟩ => by
  obtain ⟨a, b, rfl, rfl, hl, hq⟩ := w2_scat hq
  cases hx
  cases hy
  exact ⟨_, _, rfl, rfl, big_ok hl, k _ _ R H (Grow.refl hs) (.str _) hq⟩

/-! ### comparisons of data -/
mutual
theorem dp_of {K : PySem.W.Frag} {R H : Hp} (e : Sub R H) : ∀ (n : Nat) (d : D) (v : V), cmpOk n d = true → Rp K R v d → Dp K H v (toPy d)
  | _, .non, _, _, .non => .non
  | _, .bl _, _, _, .bl _ => .bl _
  | _, .int _, _, _, .int _ => .int _
  | _, .str _, _, _, .str _ => .str _
  | 0, .tup _, _, h, _ => by simp [cmpOk] at h
  | 0, .lst _, _, h, _ => by simp [cmpOk] at h
  | 0, .scr _, _, h, _ => by simp [cmpOk] at h
  | 0, .brd _, _, h, _ => by simp [cmpOk] at h
  | n + 1, .tup ds, _, h, .tup h1 r => by
    rw [toPy]
    exact .tup (sub_sqT e h1) (dps_of e n ds _ (by simpa [cmpOk] using h) r)
  | n + 1, .lst ds, _, h, .lst h1 r => by
    rw [toPy]
    exact .lst (SqL.of (e _ _ h1)) (dps_of e n ds _ (by simpa [cmpOk] using h) r)
  | n + 1, .scr ns, _, _, .scr h1 => by
    rw [toPy]
    refine .lst (sub_sqL e h1) ?_
    induction ns with
    | nil => exact .nil
    | cons m ns ih => exact .cons (.int m) (by clear h1; exact dp_ints ns)
  | n + 1, .brd _, _, h, _ => by simp [cmpOk] at h
theorem dps_of {K : PySem.W.Frag} {R H : Hp} (e : Sub R H) : ∀ (n : Nat) (ds : List D) (vs : List V), cmpOks n ds = true → Rps K R vs ds → DpAll K H vs (toPys ds)
  | _, [], _, _, .nil => by
    rw [toPys]
    exact .nil
  | n, d :: ds, _, h, .cons h1 r => by
    rw [toPys]
    have h' : cmpOk n d = true ∧ cmpOks n ds = true := by simpa [cmpOks] using h
    exact .cons (dp_of e n d _ h'.1 h1) (dps_of e n ds _ h'.2 r)
theorem dp_ints {K : PySem.W.Frag} {H : Hp} : ∀ ns : List Int, DpAll K H (ns.map V.int) (ns.map .int)
  | [] => .nil
  | m :: ns => .cons (.int m) (dp_ints ns)
end
theorem depth_ints : ∀ ns : List Int, PyData.depthAll (ns.map .int) ≤ 1
  | [] => by simp [PyData.depthAll]
  | n :: ns => by
    have h := depth_ints ns
    simp only [List.map_cons, PyData.depthAll, PyData.depth]
    omega
theorem lay_ints : ∀ ns : List Int, PyData.canLayAll0 (ns.map .int) = true
  | [] => rfl
  | n :: ns => by
    simp only [List.map_cons, PyData.canLayAll0, PyData.canLay0, lay_ints ns, Bool.and_self]
mutual
theorem lay_of : ∀ (n : Nat) (d : D), cmpOk n d = true → (toPy d).canLay0 = true ∧ (toPy d).depth ≤ n + 2
  | _, .non, _ => by simp [toPy, PyData.canLay0, PyData.depth]
  | _, .bl _, _ => by simp [toPy, PyData.canLay0, PyData.depth]
  | _, .int _, _ => by simp [toPy, PyData.canLay0, PyData.depth]
  | _, .str s, h => by
    have h' : PyData.strOk s = true := by simpa [cmpOk] using h
    simp [toPy, PyData.canLay0, PyData.depth, h']
  | 0, .tup _, h => by simp [cmpOk] at h
  | 0, .lst _, h => by simp [cmpOk] at h
  | 0, .scr _, h => by simp [cmpOk] at h
  | 0, .brd _, h => by simp [cmpOk] at h
  | n + 1, .tup ds, h => by
    obtain ⟨h1, h2⟩ := lays_of n ds (by simpa [cmpOk] using h)
    simp only [toPy, PyData.canLay0, PyData.depth]
    exact ⟨h1, by omega⟩
  | n + 1, .lst ds, h => by
    obtain ⟨h1, h2⟩ := lays_of n ds (by simpa [cmpOk] using h)
    simp only [toPy, PyData.canLay0, PyData.depth]
    exact ⟨h1, by omega⟩
  | n + 1, .scr ns, _ => by
    have h1 := lay_ints ns
    have h2 := depth_ints ns
    simp only [toPy, PyData.canLay0, PyData.depth]
    exact ⟨h1, by omega⟩
  | n + 1, .brd _, h => by simp [cmpOk] at h
theorem lays_of : ∀ (n : Nat) (ds : List D), cmpOks n ds = true → PyData.canLayAll0 (toPys ds) = true ∧ PyData.depthAll (toPys ds) ≤ n + 2
  | _, [], _ => by simp [toPys, PyData.canLayAll0, PyData.depthAll]
  | n, d :: ds, h => by
    have h' : cmpOk n d = true ∧ cmpOks n ds = true := by simpa [cmpOks] using h
    obtain ⟨h1, h2⟩ := lay_of n d h'.1
    obtain ⟨h3, h4⟩ := lays_of n ds h'.2
    simp only [toPys, PyData.canLayAll0, PyData.depthAll, h1, h3, Bool.and_self, true_and]
    omega
end
theorem shaped_of {d : D} (h : cmpOk 20 d = true) : SeqAt.shaped (toPy d) = true := by
  obtain ⟨h1, h2⟩ := lay_of 20 d h
  unfold SeqAt.shaped
  rw [h1, Bool.true_and]
  exact decide_eq_true (by omega)
theorem b_eq (hu : X.A.units + 64 < cLine) : OpR X (compareOp .Eq) (r2 X.K .eq) := opImp (op_eqD hu) fun x y H Q ⟨R, dx, dy, Q', hs, hx, hy, hq, k⟩ => by
  obtain ⟨h1, h2, hq⟩ := (show cmpOk 20 dx = true ∧ cmpOk 20 dy = true ∧ Q' (.bl (eqD dx dy)) by cases dx <;> exact hq)
  exact ⟨toPy dx, toPy dy, dp_of hs 20 dx x h1 hx, dp_of hs 20 dy y h2 hy, shaped_of h1, shaped_of h2, k _ _ R H (Grow.refl hs) (.bl _) hq⟩
theorem b_ne (hu : X.A.units + 64 < cLine) : OpR X (compareOp .NotEq) (r2 X.K .ne) := opImp (op_neD hu) fun x y H Q ⟨R, dx, dy, Q', hs, hx, hy, hq, k⟩ => by
  obtain ⟨h1, h2, hq⟩ := (show cmpOk 20 dx = true ∧ cmpOk 20 dy = true ∧ Q' (.bl (!eqD dx dy)) by cases dx <;> exact hq)
  exact ⟨toPy dx, toPy dy, dp_of hs 20 dx x h1 hx, dp_of hs 20 dy y h2 hy, shaped_of h1, shaped_of h2, k _ _ R H (Grow.refl hs) (.bl _) hq⟩
theorem any_eqv (dx : D) : ∀ ds : List D, (toPys ds).any (fun z => PyData.eqv z (toPy dx)) = ds.any fun z => eqD z dx
  | [] => rfl
  | d :: ds => by
    show (PyData.eqv (toPy d) (toPy dx) || (toPys ds).any _) = (eqD d dx || ds.any _)
    rw [any_eqv dx ds]
    rfl
theorem b_inD (hu : X.A.units + 65 < cLine) : OpR X (compareOp .In) (r2 X.K .inD) := opImp (op_inD hu) fun x y H Q ⟨R, dx, dy, Q', hs, hx, hy, hq, k⟩ => by
  obtain ⟨ds, e⟩ : ∃ ds, dy = .lst ds := by cases dx <;> cases dy <;> first | exact ⟨_, rfl⟩ | exact False.elim hq
  subst e
  obtain ⟨h1, h2, hq⟩ := (show cmpOk 20 dx = true ∧ cmpOk 20 (.lst ds) = true ∧ Q' (.bl (ds.any fun z => eqD z dx)) by cases dx <;> exact hq)
  refine ⟨toPy dx, toPys ds, dp_of hs 20 dx x h1 hx, dp_of hs 20 (.lst ds) y h2 hy, shaped_of h1, shaped_of h2, ?_⟩
  rw [any_eqv]
  exact k _ _ R H (Grow.refl hs) (.bl _) hq
theorem b_ninD (hu : X.A.units + 65 < cLine) : OpR X (compareOp .NotIn) (r2 X.K .ninD) := opImp (op_notInD hu) fun x y H Q ⟨R, dx, dy, Q', hs, hx, hy, hq, k⟩ => by
  obtain ⟨ds, e⟩ : ∃ ds, dy = .lst ds := by cases dx <;> cases dy <;> first | exact ⟨_, rfl⟩ | exact False.elim hq
  subst e
  obtain ⟨h1, h2, hq⟩ := (show cmpOk 20 dx = true ∧ cmpOk 20 (.lst ds) = true ∧ Q' (.bl (!ds.any fun z => eqD z dx)) by cases dx <;> exact hq)
  refine ⟨toPy dx, toPys ds, dp_of hs 20 dx x h1 hx, dp_of hs 20 (.lst ds) y h2 hy, shaped_of h1, shaped_of h2, ?_⟩
  rw [any_eqv]
  exact k _ _ R H (Grow.refl hs) (.bl _) hq
theorem b_ninS : OpR X (compareOp .NotIn) (r2 X.K .ninS) := opImp op_notIn_sign fun x y H Q ⟨R, dx, dy, Q', hs, hx, hy, hq, k⟩ => by
  cases dx <;> cases dy <;> first | exact hq.elim | skip
  rename_i s z
  obtain ⟨c, rfl, hq⟩ := hq
  cases hx
  cases hy
  exact ⟨c, z, rfl, rfl, k _ _ R H (Grow.refl hs) (.bl _) hq⟩
/-! ### items, slices -/
theorem at_map {α β : Type} {f : α → β} {xs : List α} {i : Int} {x : α} (h : atI xs i = some x) : atI (xs.map f) i = some (f x) := by
  unfold atI at h ⊢
  rw [List.length_map]
  cases q : ixN xs.length i with
  | none =>
    rw [q] at h
    cases h
  | some j =>
    rw [q] at h
    show (xs.map f)[j]? = some (f x)
    have h' : xs[j]? = some x := h
    rw [List.getElem?_map, h']
    rfl
theorem b_ix : IxR X (r2 X.K .ix) := by
  intro value slice pins s σ H x y v u Q I rx ry ⟨R, dx, dy, Q', hs, hx, hy, hq, k⟩ hsub
  refine ix_seq value slice pins s σ H x y v u Q I rx ry ?_ hsub
  cases dx <;> cases dy <;> first | exact hq.elim | skip
  · cases hx
    cases hy
    obtain ⟨c, h1, h2, hq⟩ := hq
    exact .inr (.inr ⟨_, _, c, rfl, rfl, big_ok h1, h2, k _ _ R H (Grow.refl hs) (.str _) hq⟩)
  · cases hx with
    | tup h1 q1 =>
      cases hy
      obtain ⟨d, h2, hq⟩ := hq
      obtain ⟨w, h3, r3⟩ := q1.at h2
      exact .inr (.inl ⟨_, _, _, w, rfl, rfl, sub_sqT hs h1, h3, k _ _ R H (Grow.refl hs) r3 hq⟩)
  · cases hx with
    | lst h1 q1 =>
      cases hy
      obtain ⟨d, h2, hq⟩ := hq
      obtain ⟨w, h3, r3⟩ := q1.at h2
      exact .inl ⟨_, _, _, w, rfl, rfl, Sub.list hs h1, h3, k _ _ R H (Grow.refl hs) r3 hq⟩
  · cases hx with
    | scr h1 =>
      cases hy
      obtain ⟨d, h2, hq⟩ := hq
      exact .inl ⟨_, _, _, .int d, rfl, rfl, sub_sqL hs h1, at_map h2, k _ _ R H (Grow.refl hs) (.int d) hq⟩

theorem cutL_map {α β : Type} (f : α → β) (xs : List α) (lo hi : Option Int) : cutL (xs.map f) lo hi = (cutL xs lo hi).map f := by
  unfold cutL
  rw [List.length_map, ← List.map_drop, ← List.map_take]
def rSl (K : PySem.W.Frag) : V → Option Int → Option Int → Hp → VK → Prop := fun x lo hi H Q => ∃ (R : Hp) (dx : D) (Q' : D → Prop), Sub R H ∧ Rp K R x dx ∧ wsl dx lo hi Q' ∧ ∀ z v R' H', Grow R H R' H' → Rp K R' v z → Q' z → Q v H'
theorem b_sl : L2.SlR X (rSl X.K) := by
  intro pins s σ H x v vl vu lo hi sl Q I rx hs pl pu ⟨R, dx, Q', hr, hx, hq, k⟩
  cases dx <;> first | exact hq.elim | skip
  · cases hx
    obtain ⟨h1, hq⟩ := hq
    refine sl_str pins s σ H _ v vl vu lo hi sl Q I rx hs pl pu ⟨_, rfl, big_ok h1, ?_⟩
    exact k _ _ R H (Grow.refl hr) (.str _) hq
  · rename_i ds
    cases hx with
    | @tup p xs ds' h1 q1 =>
      refine sl_tupA pins s σ H _ v vl vu lo hi sl Q I rx hs pl pu ⟨_, _, rfl, sub_sqT hr h1, fun e => ?_, fun _ r hr' => ?_⟩
      · have e2 : cutL ds lo hi = ds := by
          unfold cutL
          rw [← q1.length, e.1, e.2, List.drop_zero, Nat.sub_zero, q1.length, List.take_length]
        have hq' : Q' (.tup (cutL ds lo hi)) := hq
        rw [e2] at hq'
        exact k _ _ R H (Grow.refl hr) (.tup h1 q1) hq'
      · have g : Grow R H (upd R r (.tup (cutV xs lo hi))) (upd H r (.tup (cutV xs lo hi))) := Grow.new hr hr'
        exact k _ _ _ _ g (.tup (SqT.of upd_same) ((q1.cut lo hi).mono g.rr)) hq
  · cases hx with
    | @lst p xs ds h1 q1 =>
      refine sl_list pins s σ H _ v vl vu lo hi sl Q I rx hs pl pu ⟨_, _, rfl, Sub.list hr h1, fun r hr' => ?_⟩
      have g : Grow R H (upd R r (.lst (cutV xs lo hi))) (upd H r (.lst (cutV xs lo hi))) := Grow.new hr hr'
      exact k _ _ _ _ g (.lst upd_same ((q1.cut lo hi).mono g.rr)) hq
  · rename_i ns
    cases hx with
    | @scr p ns' h1 =>
      refine sl_list pins s σ H _ v vl vu lo hi sl Q I rx hs pl pu ⟨_, _, rfl, sub_sqL hr h1, fun r hr' => ?_⟩
      have g : Grow R H (upd R r (.lst (cutV (ns.map V.int) lo hi))) (upd H r (.lst (cutV (ns.map V.int) lo hi))) := Grow.new hr hr'
      refine k _ _ _ _ g (.lst upd_same ?_) hq
      show Rps X.K _ (cutL (ns.map V.int) lo hi) _
      rw [cutL_map]
      exact Rps.of_ints _

/-! ### calls of built-ins -/
/-- a call of one argument, of two, as an operation on data -/
def c1 (K : PySem.W.Frag) (o : O1) : List V → Hp → VK → Prop := fun xs H Q => ∃ x, xs = [x] ∧ r1 K o x H Q
def c2 (K : PySem.W.Frag) (o : O2) : List V → Hp → VK → Prop := fun xs H Q => ∃ x y, xs = [x, y] ∧ r2 K o x y H Q
theorem b_abs : CallR X (.builtin "abs") (c1 X.K .abs) := callImp call_abs fun xs H Q ⟨x, e, R, dx, Q', hs, hx, hq, k⟩ => by
  subst e
  cases dx <;> first | exact hq.elim | skip
  rename_i i
  cases hx
  refine ⟨i, rfl, k _ _ R H (Grow.refl hs) ?_ hq⟩
  have e : (if i < 0 then -i else i) = (i.natAbs : Int) := by split <;> omega
  rw [e]
  exact .int _
theorem b_len : CallR X (.builtin "len") (c1 X.K .len) := callImp call_len fun xs H Q ⟨x, e, R, dx, Q', hs, hx, hq, k⟩ => by
  subst e
  cases dx <;> first | exact hq.elim | skip
  · cases hx
    obtain ⟨h1, hq⟩ := hq
    exact ⟨_, _, rfl, ⟨big_ok h1, rfl⟩, k _ _ R H (Grow.refl hs) (.int _) hq⟩
  · cases hx with
    | @tup p xs ds h1 q1 => exact ⟨_, _, rfl, .inr ⟨_, sub_sqT hs h1, q1.length.symm⟩, k _ _ R H (Grow.refl hs) (.int _) hq⟩
  · cases hx with
    | @lst p xs ds h1 q1 => exact ⟨_, _, rfl, .inl ⟨_, Sub.list hs h1, q1.length.symm⟩, k _ _ R H (Grow.refl hs) (.int _) hq⟩
  · cases hx with
    | @scr p ns h1 => exact ⟨_, _, rfl, .inl ⟨_, sub_sqL hs h1, by rw [List.length_map]⟩, k _ _ R H (Grow.refl hs) (.int _) hq⟩
theorem b_tup : CallR X (.type "tuple") (c1 X.K .tupO) := callImp call_tuple_of fun xs H Q ⟨x, e, R, dx, Q', hs, hx, hq, k⟩ => by
  subst e
  cases dx <;> first | exact hq.elim | skip
  · cases hx with
    | @tup p xs ds h1 q1 => exact ⟨_, _, rfl, .inr ⟨sub_sqT hs h1, k _ _ R H (Grow.refl hs) (.tup h1 q1) hq⟩⟩
  · cases hx with
    | @lst p xs ds h1 q1 =>
      refine ⟨_, _, rfl, .inl ⟨Sub.list hs h1, fun l hl => ?_⟩⟩
      have g : Grow R H (upd R l (.tup xs)) (upd H l (.tup xs)) := Grow.new hs hl
      exact k _ _ _ _ g (.tup (SqT.of upd_same) (q1.mono g.rr)) hq
def c1f (K : PySem.W.Frag) (o : O1) : List V → Hp → VK → Prop := fun xs H Q => ∃ x, xs = [x] ∧ r1f K o x H Q
theorem b_lstf : CallR X (.type "list") (c1f X.K .lstO) := callImp call_list_of fun xs H Q ⟨x, e, R, dx, Q', hs, hx, hq, k⟩ => by
  subst e
  cases dx <;> first | exact hq.elim | skip
  · cases hx with
    | @tup p xs ds h1 q1 => exact ⟨_, _, rfl, .inr (sub_sqT hs h1), fun l hl => k _ _ l hl q1 hq⟩
  · cases hx with
    | @lst p xs ds h1 q1 => exact ⟨_, _, rfl, .inl (Sub.list hs h1), fun l hl => k _ _ l hl q1 hq⟩
theorem callOr {f : Value} {r r' : List V → Hp → VK → Prop} (h : CallR X f r) (h' : CallR X f r') : CallR X f (fun xs H Q => r xs H Q ∨ r' xs H Q) := fun pins s σ H xs us Q I rx q => by
  rcases q with q | q
  · exact h pins s σ H xs us Q I rx q
  · exact h' pins s σ H xs us Q I rx q
theorem b_int : CallR X (.type "int") (c1 X.K .intO) := callImp (callOr call_int1 call_int_str) fun xs H Q ⟨x, e, R, dx, Q', hs, hx, hq, k⟩ => by
  subst e
  cases dx <;> first | exact hq.elim | skip
  · cases hx
    exact .inl (.inr ⟨_, rfl, k _ _ R H (Grow.refl hs) (.int _) hq⟩)
  · cases hx
    exact .inl (.inl ⟨_, rfl, k _ _ R H (Grow.refl hs) (.int _) hq⟩)
  · cases hx
    obtain ⟨n, h1, h2, hq⟩ := hq
    exact .inr ⟨_, n, rfl, h1, h2, k _ _ R H (Grow.refl hs) (.int _) hq⟩
theorem b_str : CallR X (.type "str") (c1 X.K .strO) := callImp call_str_int fun xs H Q ⟨x, e, R, dx, Q', hs, hx, hq, k⟩ => by
  subst e
  cases dx <;> first | exact hq.elim | skip
  cases hx
  exact ⟨_, rfl, hq.1, k _ _ R H (Grow.refl hs) (.str _) hq.2⟩
theorem b_sum (hc : X.calm = true) : CallR X (.builtin "sum") (c1 X.K .sum) := callImp (cr_sum hc) fun xs H Q ⟨x, e, R, dx, Q', hs, hx, hq, k⟩ => by
  subst e
  cases dx <;> first | exact hq.elim | skip
  obtain ⟨ns, rfl, hq⟩ := hq
  cases hx with
  | @lst p xs ds h1 q1 =>
    rw [q1.ints] at h1
    exact ⟨p, ns, rfl, Sub.list hs h1, k _ _ R H (Grow.refl hs) (.int _) hq⟩
theorem b_max (hc : X.calm = true) : CallR X (.builtin "max") (c2 X.K .max) := callImp (call_max2 hc) fun xs H Q ⟨x, y, e, R, dx, dy, Q', hs, hx, hy, hq, k⟩ => by
  subst e
  cases dx <;> cases dy <;> first | exact hq.elim | skip
  cases hx
  cases hy
  exact ⟨_, _, rfl, k _ _ R H (Grow.refl hs) (.int _) hq⟩
theorem b_min (hc : X.calm = true) : CallR X (.builtin "min") (c2 X.K .min) := callImp (call_min2 hc) fun xs H Q ⟨x, y, e, R, dx, dy, Q', hs, hx, hy, hq, k⟩ => by
  subst e
  cases dx <;> cases dy <;> first | exact hq.elim | skip
  cases hx
  cases hy
  exact ⟨_, _, rfl, k _ _ R H (Grow.refl hs) (.int _) hq⟩
/-- a datum's type -/
def tyD : D → String
  | .non => "NoneType"
  | .bl _ => "bool"
  | .int _ => "int"
  | .str _ => "str"
  | .tup _ => "tuple"
  | .lst _ => "list"
  | .scr _ => "list"
  | .brd _ => "Board"
theorem ty_of {K : PySem.W.Frag} {R H : Hp} (e : Sub R H) {x : V} {d : D} (h : Rp K R x d) (hb : isBrdD d = false) : TyX K H x (.type (tyD d)) := by
  cases h with
  | non => exact .base .non
  | bl b => exact .base (.bl b)
  | int i => exact .base (.int i)
  | str s => exact .base (.str s)
  | tup h1 _ =>
    rcases sub_sqT e h1 with (h | ⟨o, h⟩) | ⟨o, its, n, h, hc, _⟩
    · exact .base (.tup h)
    · exact .fTuple h
    · exact .kTuple h hc
  | lst h1 _ => exact .base (.lst (e _ _ h1))
  | scr h1 =>
    rcases sub_sqL e h1 with (h | ⟨o, h⟩) | ⟨o, its, n, h, hc, _⟩
    · exact .base (.lst h)
    · exact .base (.frz h)
    · exact .kList h hc
  | brd p => cases hb
/-- isinstance(x, T) -/
def rIs (K : PySem.W.Frag) (o : O1) (T : String) : List V → Hp → VK → Prop := fun xs H Q => ∃ x, xs = [x, .ty T] ∧ r1 K o x H Q
theorem b_is {o : O1} {T : String} {p : D → Bool} (hw : ∀ d Q, w1 o d Q → isBrdD d = false ∧ Q (.bl (p d))) (hk : ∀ d, isBrdD d = false → kitB (tyD d) T = some (p d)) : CallR X (.builtin "isinstance") (rIs X.K o T) :=
  callImp call_isi fun xs H Q ⟨x, e, R, dx, Q', hs, hx, hq, k⟩ => by
    subst e
    obtain ⟨h1, hq⟩ := hw _ _ hq
    exact ⟨x, .ty T, .type (tyD dx), .type T, p dx, rfl, .ty T, ty_of hs hx h1, kit_ty (hk dx h1), k _ _ R H (Grow.refl hs) (.bl _) hq⟩
theorem b_isInt : CallR X (.builtin "isinstance") (rIs X.K .isInt "int") := b_is (p := isIntD) (fun d Q h => by cases d <;> exact h) fun d h => by
  cases d <;> first | exact Bool.noConfusion h | (show kitB _ _ = some _; simp only [tyD, isIntD]; decide +kernel)
theorem b_isBool : CallR X (.builtin "isinstance") (rIs X.K .isBool "bool") := b_is (p := isBoolD) (fun d Q h => by cases d <;> exact h) fun d h => by
  cases d <;> first | exact Bool.noConfusion h | (show kitB _ _ = some _; simp only [tyD, isBoolD]; decide +kernel)
theorem b_isTup : CallR X (.builtin "isinstance") (rIs X.K .isTup "tuple") := b_is (p := isTupD) (fun d Q h => by cases d <;> exact h) fun d h => by
  cases d <;> first | exact Bool.noConfusion h | (show kitB _ _ = some _; simp only [tyD, isTupD]; decide +kernel)
theorem b_isLst : CallR X (.builtin "isinstance") (rIs X.K .isLst "list") := b_is (p := isLstD) (fun d Q h => by cases d <;> exact h) fun d h => by
  cases d <;> first | exact Bool.noConfusion h | (show kitB _ _ = some _; simp only [tyD, isLstD]; decide +kernel)
theorem b_isStr : CallR X (.builtin "isinstance") (rIs X.K .isStr "str") := b_is (p := isStrD) (fun d Q h => by cases d <;> exact h) fun d h => by
  cases d <;> first | exact Bool.noConfusion h | (show kitB _ _ = some _; simp only [tyD, isStrD]; decide +kernel)
theorem r1_isN {K : PySem.W.Frag} {x : V} {H : Hp} {Q : VK} (h : r1 K .isN x H Q) : Q (.bl (decide (x = .non))) H := by
  obtain ⟨R, dx, Q', hs, hx, hq, k⟩ := h
  have e : decide (x = .non) = isNonD dx := by cases hx <;> rfl
  rw [e]
  exact k _ _ R H (Grow.refl hs) (.bl _) (by cases dx <;> exact hq)
theorem r1_notN {K : PySem.W.Frag} {x : V} {H : Hp} {Q : VK} (h : r1 K .notN x H Q) : Q (.bl (!decide (x = .non))) H := by
  obtain ⟨R, dx, Q', hs, hx, hq, k⟩ := h
  have e : decide (x = .non) = isNonD dx := by cases hx <;> rfl
  rw [e]
  exact k _ _ R H (Grow.refl hs) (.bl _) (by cases dx <;> exact hq)
theorem b_neg : UnR X (unaryOp .USub) (r1 X.K .neg) := fun pins s σ H x v Q I rx ⟨R, dx, Q', hs, hx, hq, k⟩ => by
  refine un_neg pins s σ H x v Q I rx ?_
  cases dx <;> first | exact hq.elim | skip
  cases hx
  exact ⟨_, rfl, k _ _ R H (Grow.refl hs) (.int _) hq⟩
end
end LK

/-! zip of a tuple and a list. -/
namespace LK
open PySem PySem.Spec PyProof.Rows L2

def ItzM (K : PySem.W.Frag) (a b : Addr) : It :=
  ⟨fun i H => ∃ (xs ys : List V) (x y : V), SqT K H a xs ∧ SqL K H b ys ∧ xs[i]? = some x ∧ ys[i]? = some y,
    fun i H v H' => ∃ T x y, v = .ref T ∧ H T = none ∧ H' = upd H T (.tup [x, y]) ∧ (∀ xs, SqT K H a xs → xs[i]? = some x) ∧ ∀ ys, SqL K H b ys → ys[i]? = some y,
    fun i H => ∃ xs ys : List V, SqT K H a xs ∧ SqL K H b ys ∧ (xs.length ≤ i ∨ ys.length ≤ i) ∧ i ≤ xs.length ∧ i ≤ ys.length⟩
theorem sepM {z TI TO i1 i2 a b : Addr} (D : ZipApart z TI TO i1 i2 a b) (hTa : TI ≠ a) (h2 : i2 ≠ a) (h1 : i1 ≠ b) : ZipSep2 z TI TO i1 i2 [i1, a] [i2, b] where
  TIz := D.TIz
  TOz := D.TOz
  TITO := D.TITO
  TIi1 := D.TIi1
  mem1 := by simp
  zf1 := by simp only [List.mem_cons, List.not_mem_nil, or_false, not_or]; exact ⟨D.i1z.symm, D.l1z.symm⟩
  Tf1 := by simp only [List.mem_cons, List.not_mem_nil, or_false, not_or]; exact ⟨D.TOi1, D.l1TO.symm⟩
  TIi2 := D.TIi2
  mem2 := by simp
  zf2 := by simp only [List.mem_cons, List.not_mem_nil, or_false, not_or]; exact ⟨D.i2z.symm, D.l2z.symm⟩
  Tf2 := by simp only [List.mem_cons, List.not_mem_nil, or_false, not_or]; exact ⟨D.TOi2, D.l2TO.symm⟩
  sep1_2 := by simp only [List.mem_cons, List.not_mem_nil, or_false, not_or]; exact ⟨D.i12, h1⟩
  sep2_1 := by simp only [List.mem_cons, List.not_mem_nil, or_false, not_or]; exact ⟨D.i12.symm, h2⟩
theorem turn_zipM {P : Program} {w : World} {K : PySem.W.Frag} {elts : List Expr} {kk : Nat} {tpos : Pos} {a b z TI TO i1 i2 : Addr} (D : ZipApart z TI TO i1 i2 a b) (hTa : TI ≠ a) :
    Turn P w K (.Tuple elts kk tpos) (ItzM K a b) [z, TI, TO, i1, i2] z (fun i h => IsZip h z TI TO .none ∧ IsPair h TI (.ref i1) (.ref i2) ∧ (∃ x y, IsPair h TO x y) ∧ h.IsTupleIter i1 a i ∧ h.IsListIter i2 b i) where
  mem := by simp
  obj := fun i h st c hc => by
    obtain ⟨hz, hTI, ⟨x, y, hTO⟩, ⟨o1, e1, _, d1⟩, ⟨o2, e2, _, d2⟩⟩ := st
    have e' : c = z ∨ c = TI ∨ c = TO ∨ c = i1 ∨ c = i2 := by simpa using hc
    rcases e' with q | q | q | q | q
    · rw [q]; exact ⟨_, hz, fun v q => nomatch q⟩
    · rw [q]; exact ⟨_, hTI, fun v q => nomatch q⟩
    · rw [q]; exact ⟨_, hTO, fun v q => nomatch q⟩
    · rw [q]; exact ⟨o1, e1, fun v q => by rw [d1] at q; cases q⟩
    · rw [q]; exact ⟨o2, e2, fun v q => by rw [d2] at q; cases q⟩
  keep := fun i h h' st k => by
    obtain ⟨hz, hTI, ⟨x, y, hTO⟩, h1, h2⟩ := st
    exact ⟨k z (by simp) _ hz, k TI (by simp) _ hTI, ⟨x, y, k TO (by simp) _ hTO⟩, h1.at fun o q => k i1 (by simp) o q, h2.at fun o q => k i2 (by simp) o q⟩
  item := by
    intro X hP hw hK hc i pins s σ H E I hf st hg
    subst hP hw hK
    obtain ⟨hz, hTI, ⟨x0, y0, hTO⟩, h1, h2⟩ := st
    obtain ⟨xs, ys, x, y, hqx, hqy, hx, hy⟩ := hg
    obtain ⟨its, rv, p, _⟩ := I.tuple hqx
    obtain ⟨its2, rv2, p2, _⟩ := I.list hqy
    obtain ⟨u, hu, ru⟩ := rv.get hx
    obtain ⟨u2, hu2, ru2⟩ := rv2.get hy
    have hzl : z < s.heap.objs.size := Heap.lt_size hz
    have l1 := (List.getElem?_eq_some_iff.mp hu).1
    have l2 := (List.getElem?_eq_some_iff.mp hu2).1
    have hh : X.A.in1.handled = none := I.ok.hd hc
    refine wpAny_pyNext_zipD2_item (a1 := x0) (a2 := y0) (n1 := its.toArray.size) (n2 := its2.toArray.size) (i := i) (sepM D hTa D.l1i2.symm D.l2i1.symm) (Draws.tuple hh i1 a D.l1i1 its.toArray) (Draws.list hh i2 b D.l2i2 its2.toArray) hz hTI hTO ⟨h1, show s.heap.IsTuple a its.toArray from p⟩ ⟨h2, p2.isList⟩ (by simpa using l1) (by simpa using l2) fun x1 x2 h' tk q1 q2 z' TO' h1' h2' hT hsz hk => ?_
    have ex1 : x1 = u := by
      have q1' : its.toArray[i]? = some x1 := q1
      rw [List.getElem?_toArray, hu] at q1'
      exact (Option.some.inj q1').symm
    have ex2 : x2 = u2 := by
      have q2' : its2.toArray[i]? = some x2 := q2
      rw [List.getElem?_toArray, hu2] at q2'
      exact (Option.some.inj q2').symm
    subst ex1 ex2
    refine ⟨_, rfl, wpAny_letOwnedTupleGo_zip (s := { s with heap := h', toks := tk }) z' fun h'' z'' sb => ?_⟩
    have hT2 : h''.get? s.heap.objs.size = some { cls := .type "tuple", data := .seq #[x1, x2] } := (sb.2 _ (Nat.ne_of_gt hzl)).trans hT
    have new : ObjOk X.prog X.w (upd H s.heap.objs.size (.tup [x, y])) h'' s.heap.objs.size (.tup [x, y]) :=
      ⟨by show 2 ≤ sizeLine; decide, [x1, x2], .cons ru (.cons ru2 .nil), ⟨_, hT2, rfl, _, rfl⟩⟩
    have I1 : Inv X pins σ (upd H s.heap.objs.size (.tup [x, y])) { s with heap := h'', toks := tk } :=
      I.turnedNew (t' := tk) (ch := [z, TI, TO, i1, i2]) (fun c o hb q => (sb.2 c (fun q' => hb (by simp [q']))).trans (hk c o (fun q' => hb (by simp [q'])) (fun q' => hb (by simp [q'])) (fun q' => hb (by simp [q'])) (fun q' => hb (by simp [q'])) q)) hf (Nat.le_refl _) new
    refine ⟨.ref s.heap.objs.size, _, I1, rfl, ⟨_, x, y, rfl, I.hok.fresh (Nat.le_refl _), rfl, fun l hl => by rw [I.tuple_inj hl hqx]; exact hx, fun l hl => by rw [I.list_inj hl hqy]; exact hy⟩, ⟨z'', ?_, ⟨x1, x2, ?_⟩, ?_, ?_⟩, fun c hcm => ?_⟩
    · exact (sb.2 _ D.TIz).trans (hk _ _ D.TIz D.TITO D.TIi1 D.TIi2 hTI)
    · exact (sb.2 _ D.TOz).trans TO'
    · exact h1'.1.at fun o q => (sb.2 _ D.i1z).trans q
    · exact h2'.1.at fun o q => (sb.2 _ D.i2z).trans q
    · have hlt : c < s.heap.objs.size := by
        have e' : c = z ∨ c = TI ∨ c = TO ∨ c = i1 ∨ c = i2 := by simpa using hcm
        rcases e' with q | q | q | q | q
        · rw [q]; exact hzl
        · rw [q]; exact Heap.lt_size hTI
        · rw [q]; exact Heap.lt_size hTO
        · rw [q]; obtain ⟨_, e1, _⟩ := h1; exact Heap.lt_size e1
        · rw [q]; obtain ⟨_, e2, _⟩ := h2; exact Heap.lt_size e2
      rw [upd_ne (Nat.ne_of_lt hlt)]
      exact (hf c hcm).1
  done := by
    intro X hP hw hK hc i pins s σ H E I hf st hg
    subst hP hw hK
    obtain ⟨hz, hTI, ⟨x0, y0, hTO⟩, h1, h2⟩ := st
    obtain ⟨xs, ys, hqx, hqy, hend, hi1, hi2⟩ := hg
    obtain ⟨its, rv, p, _⟩ := I.tuple hqx
    obtain ⟨its2, rv2, p2, _⟩ := I.list hqy
    have l1 := rv.length
    have l2 := rv2.length
    have hh : X.A.in1.handled = none := I.ok.hd hc
    have z1 : its.toArray.size = xs.length := by rw [List.size_toArray]; exact l1.symm
    have z2 : its2.toArray.size = ys.length := by rw [List.size_toArray]; exact l2.symm
    refine wpAny_pyNext_zipD2_end (a1 := x0) (a2 := y0) (i := i) (sepM D hTa D.l1i2.symm D.l2i1.symm) (Draws.tuple hh i1 a D.l1i1 its.toArray) (Draws.list hh i2 b D.l2i2 its2.toArray) hz hTI hTO ⟨h1, show s.heap.IsTuple a its.toArray from p⟩ ⟨h2, p2.isList⟩ (by rw [z1]; exact hi1) (by rw [z2]; exact hi2) (by rw [z1, z2]; omega) fun h' tk hk => ?_
    exact ⟨rfl, I.turnedL (t' := tk) (ch := [z, TI, TO, i1, i2]) (fun c o hb q =>
      hk c o (fun q' => hb (by simp [q'])) (fun q' => hb (by simp [q'])) (fun q' => hb (by simp [q'])) (fun q' => hb (by simp [q'])) q) hf⟩
  self := fun A i s Q E st h => wpAny_pyIter_zip st.1 h

def iZipM (K : PySem.W.Frag) (ta : TA) : TI := fun σ H R => ta σ H fun vs H1 => ∃ a b xs ys, vs = [.ref a, .ref b] ∧ ((SqL K H1 a xs ∧ SqL K H1 b ys ∧ R (Itz K a b) H1) ∨ (SqT K H1 a xs ∧ SqT K H1 b ys ∧ R (RZ.ItzT K a b) H1) ∨ (SqT K H1 a xs ∧ SqL K H1 b ys ∧ R (ItzM K a b) H1))
theorem pi_zipM {X : Cx} {e e2 : Expr} {ta : TA} {p pos tpos : Pos} {elts : List Expr} {kk : Nat} (hg : Gl X "zip") (hm : X.mg "zip" = none) (ha : PA X [e, e2] ta)
    (hs : starEach [e, e2] X.env = (false, eval e X.env) :: starEach [e2] X.env) (hpl : (backTo pos (starEach [e2] X.env)).any (·.1) = false) :
    PI X (.Tuple elts kk tpos) (.Call (.Name "zip" p) [e, e2] [] pos) (iZipM X.K ta) := by
  refine ⟨fun pins s σ H R I h => ?_⟩
  refine Call_ (ld_blt I hg hm PyProof.Rows.boot_zip (PyProof.Rows.callWith_type1 (thn (ha.run pos pins s σ H _ I h) fun us s1 ⟨vs, H1, I1, r1, q1⟩ => ?_) hs hpl))
  obtain ⟨a, b, xs, ys, ex, q1⟩ := q1
  subst ex
  cases r1 with
  | cons r rr =>
    cases rr with
    | cons r' rr =>
      cases rr
      cases r
      cases r'
      have fresh5 : ∀ c, c ∈ [s1.heap.objs.size + 4, s1.heap.objs.size + 2, s1.heap.objs.size + 3, s1.heap.objs.size, s1.heap.objs.size + 1] → FpOk X pins H1 c := fun c hcm => by
        have e' : c = s1.heap.objs.size + 4 ∨ c = s1.heap.objs.size + 2 ∨ c = s1.heap.objs.size + 3 ∨ c = s1.heap.objs.size ∨ c = s1.heap.objs.size + 1 := by simpa using hcm
        have hle : s1.heap.objs.size ≤ c := by
          rcases e' with z | z | z | z | z
          · rw [z]; exact Nat.le_add_right _ _
          · rw [z]; exact Nat.le_add_right _ _
          · rw [z]; exact Nat.le_add_right _ _
          · rw [z]; exact Nat.le_refl _
          · rw [z]; exact Nat.le_add_right _ _
        exact I1.fpOk hle (I1.hok.fresh hle)
      rcases q1 with ⟨hqx, hqy, q⟩ | ⟨hqx, hqy, q⟩ | ⟨hqx, hqy, q⟩
      · obtain ⟨its, rv, p1, _⟩ := I1.list hqx
        obtain ⟨its2, rv2, p2, _⟩ := I1.list hqy
        refine call_zip_2 p1.isList p2.isList fun h' hz hTI hTO h1 h2 hsz hk => wpAny_pyIter_zip hz ?_
        have I2 : Inv X pins σ H1 { s1 with heap := h' } := I1.kept (t' := s1.toks) hk
        exact ⟨s1.heap.objs.size + 4, [s1.heap.objs.size + 4, s1.heap.objs.size + 2, s1.heap.objs.size + 3, s1.heap.objs.size, s1.heap.objs.size + 1], _, _, H1, rfl, I2, turn_zip (PySem.W.ktu_apart s1.heap.objs.size a b p1.lt p2.lt), ⟨hz, hTI, ⟨_, _, hTO⟩, h1, h2⟩, fresh5, q⟩
      · obtain ⟨its, rv, p1, _⟩ := I1.tuple hqx
        obtain ⟨its2, rv2, p2, _⟩ := I1.tuple hqy
        obtain ⟨o1, ho1, _⟩ := id p1
        obtain ⟨o2, ho2, _⟩ := id p2
        refine RZ.call_zipT (show s1.heap.IsTuple a its.toArray from p1) (show s1.heap.IsTuple b its2.toArray from p2) fun h' hz hTI hTO h1 h2 hsz hk => wpAny_pyIter_zip hz ?_
        have I2 : Inv X pins σ H1 { s1 with heap := h' } := I1.kept (t' := s1.toks) hk
        exact ⟨s1.heap.objs.size + 4, [s1.heap.objs.size + 4, s1.heap.objs.size + 2, s1.heap.objs.size + 3, s1.heap.objs.size, s1.heap.objs.size + 1], _, _, H1, rfl, I2, RZ.turn_zipT (PySem.W.ktu_apart s1.heap.objs.size a b (Heap.lt_size ho1) (Heap.lt_size ho2)), ⟨hz, hTI, ⟨_, _, hTO⟩, h1, h2⟩, fresh5, q⟩
      · obtain ⟨its, rv, p1, _⟩ := I1.tuple hqx
        obtain ⟨its2, rv2, p2, _⟩ := I1.list hqy
        obtain ⟨o1, ho1, _⟩ := id p1
        have la : a < s1.heap.objs.size := Heap.lt_size ho1
        refine zip_begins2 (begins_tuple a its.toArray) (begins_list b its2.toArray) (show s1.heap.IsTuple a its.toArray from p1) p2.isList fun h' hz hTI hTO h1 h2 hsz hk => wpAny_pyIter_zip hz ?_
        have I2 : Inv X pins σ H1 { s1 with heap := h' } := I1.kept (t' := s1.toks) hk
        exact ⟨s1.heap.objs.size + 4, [s1.heap.objs.size + 4, s1.heap.objs.size + 2, s1.heap.objs.size + 3, s1.heap.objs.size, s1.heap.objs.size + 1], _, _, H1, rfl, I2, turn_zipM (PySem.W.ktu_apart s1.heap.objs.size a b la p2.lt) (Nat.ne_of_gt (Nat.lt_of_lt_of_le la (Nat.le_add_right _ _))), ⟨hz, hTI, ⟨_, _, hTO⟩, ⟨_, h1, rfl, rfl⟩, ⟨_, h2, rfl, rfl⟩⟩, fresh5, q⟩
end LK

/-! The language's texts say what they say: expressions. -/
namespace LK
open PySem PySem.Spec PyProof.Rows L2

/-- a step; q: it is known to leave the object -/
structure StQ (bc : Addr) (q : Bool) (b b' : Ob) (R H R' H' : Hp) : Prop where
  st : Stp bc b b' R H R' H'
  qb : q = true → b' = b
  qs : q = true → Sub H H'
theorem StQ.refl {bc : Addr} {q : Bool} {b : Ob} {R H : Hp} (h : Sub R H) : StQ bc q b b R H R H := ⟨Stp.refl h, fun _ => rfl, fun _ => Sub.refl _⟩
theorem StQ.trans {bc : Addr} {p q : Bool} {b b1 b2 : Ob} {R H R1 H1 R2 H2 : Hp} (x : StQ bc p b b1 R H R1 H1) (y : StQ bc q b1 b2 R1 H1 R2 H2) : StQ bc (p && q) b b2 R H R2 H2 :=
  ⟨x.st.trans y.st, fun h => by
    rw [Bool.and_eq_true] at h
    rw [y.qb h.2, x.qb h.1], fun h => by
    rw [Bool.and_eq_true] at h
    exact (x.qs h.1).trans (y.qs h.2)⟩
theorem StQ.weak {bc : Addr} {p q : Bool} {b b1 : Ob} {R H R1 H1 : Hp} (x : StQ bc p b b1 R H R1 H1) (h : q = true → p = true) : StQ bc q b b1 R H R1 H1 := ⟨x.st, fun e => x.qb (h e), fun e => x.qs (h e)⟩
theorem StQ.off {bc : Addr} {b b1 : Ob} {R H R1 H1 : Hp} (x : Stp bc b b1 R H R1 H1) {q : Bool} (h : q = false) : StQ bc q b b1 R H R1 H1 := ⟨x, (fun e => by rw [h] at e; cases e), (fun e => by rw [h] at e; cases e)⟩
/-- how many -/
def nEs : Exs → Nat
  | .nil => 0
  | .cons _ es => nEs es + 1
section
variable (K : PySem.W.Frag) (S : Sy) (en : En) (W : WX)
/-- what is wanted of an error -/
def EOk (δ : Env) (σ : L2.St) (E' : Nat → Prop) : Prop := ∀ c R' H', S.M.hc c = true → ER K S.bc en δ none σ R' H' → E' c → W (.ref (S.ca c)) none σ H'
/-- an expression's reading -/
def GE (e : Ex) : TE := fun σ H Q => ∃ δ b R Q' E', ER K S.bc en δ b σ R H ∧ wE S.G e δ b Q' E' ∧
  (∀ d b' v R' H', ER K S.bc en δ b' σ R' H' → StQ S.bc (quiet e) b b' R H R' H' → Rp K R' v d → Q' d b' → Q v H') ∧ EOk K S en W δ σ E'
/-- .. whose answer is a new list of nobody's -/
def GF (e : Ex) : TE := fun σ H Q => ∃ δ b R Q' E', ER K S.bc en δ b σ R H ∧ wE S.G e δ b Q' E' ∧
  (∀ ds b' p xs R' H', ER K S.bc en δ b' σ R' H' → Stp S.bc b b' R H R' H' → H p = none → R' p = none → ¬ Bo S.bc b' H' p → H' p = some (.lst xs) → Rps K R' xs ds → Q' (.lst ds) b' → Q (.ref p) H') ∧ EOk K S en W δ σ E'
def GEs (es : Exs) : TA := fun σ H Q => ∃ δ b R Q' E', ER K S.bc en δ b σ R H ∧ wEs S.G es δ b Q' E' ∧
  (∀ ds b' vs R' H', ER K S.bc en δ b' σ R' H' → Stp S.bc b b' R H R' H' → Rps K R' vs ds → ds.length = nEs es → Q' ds b' → Q vs H') ∧ EOk K S en W δ σ E'
def GO (o : Ox) : TO := fun σ H Q => ∃ δ b R Q' E', ER K S.bc en δ b σ R H ∧ wO S.G o δ b Q' E' ∧
  (∀ i b' R' H', ER K S.bc en δ b' σ R' H' → StQ S.bc (quietO o) b b' R H R' H' → Q' i b' → Q i H') ∧ EOk K S en W δ σ E'
/-- as a test -/
def GT (e : Ex) : TT := fun σ H Q => ∃ δ b R, ∃ (Q' : Bool → Ob → Prop) (E' : Nat → Prop), ER K S.bc en δ b σ R H ∧ wE S.G e δ b (fun d b' => wtest d fun t => Q' t b') E' ∧
  (∀ t b' R' H', ER K S.bc en δ b' σ R' H' → Stp S.bc b b' R H R' H' → Q' t b' → Q t H') ∧ EOk K S en W δ σ E'
end

theorem Stp.keepR {bc : Addr} {b b' : Ob} {R H R' H' : Hp} {p : Addr} {o : HO} (x : Stp bc b b' R H R' H') (n : H p = none) (nr : R' p = none) : Stp bc b b' R H (upd R' p o) H' :=
  ⟨x.rr.trans (Sub.new nr), fun q u e => by
    rw [upd_ne (ne_of_none e n)]
    exact x.old q u e, x.dom, x.out, x.bo⟩

section
variable {S : Sy} {en : En} {N : List Str} {sc : Scope} {X : Cx} {W : WX} {lv : Nat} {x y : Expr} {e a c : Ex}

/-- a new list, kept -/
theorem ge_to_gf {K : PySem.W.Frag} {σ : L2.St} {H : Hp} {Q : VK} (hq : quiet e = false) (h : GE K S en W e σ H Q) : GF K S en W e σ H Q := by
  obtain ⟨δ, b, R, Q', E', I, w, k, ke⟩ := h
  exact ⟨δ, b, R, Q', E', I, w, fun ds b' p xs R' H' J st n nr nb hp r q => by
    have f : Fre S.bc en δ b' σ R' H' p := I.freG n st nr nb
    exact k (.lst ds) b' (.ref p) _ H' (J.keep f hp) (StQ.off (st.keepR n nr) hq) (.lst upd_same (r.mono (Sub.new nr))) q, ke⟩
theorem ge_of_gf (hq : quiet e = false) (h : PE X x (GF X.K S en W e)) : PE X x (GE X.K S en W e) := peImp h fun σ H Q q => ge_to_gf hq q

/-! ### names -/
theorem CK.gl (C : CK S N sc X W lv) {s : Str} (h : isGl sc s = true) : Gl X s := by
  have e := C.sc
  unfold isGl at h
  unfold Gl
  show X.env.scope.names.lookup s = some .globalImplicit
  rw [e]
  split at h
  · assumption
  · cases h
theorem CK.vis (C : CK S N sc X W lv) {s : Str} (h : isVis sc s = true) : Vis X.env.scope s := by
  rw [C.sc]
  unfold isVis at h
  split at h
  · exact .inl (by assumption)
  · exact .inr (.inl (by assumption))
  · exact .inr (.inr (by assumption))
  · cases h
theorem CK.loc (C : CK S N sc X W lv) {s : Str} (h : isLoc sc s = true) : Loc X.env.scope s := by
  rw [C.sc]
  unfold isLoc at h
  split at h
  · exact .inl (by assumption)
  · exact .inr (by assumption)
  · cases h
theorem okN {s : Str} (h : okName s = true) : (s == ("__debug__" : Str)) = false ∧ (s == ("__classdict__" : Str)) = false ∧ s ≠ "__name__" := by
  unfold okName at h
  simp only [Bool.and_eq_true, Bool.not_eq_true', beq_eq_false_iff_ne] at h
  exact ⟨by simpa using h.1.1, by simpa using h.1.2, h.2⟩
theorem blt_none (C : CK S N sc X W lv) {s : Str} (h : s ∈ bltNames) : X.mg s = none := C.fs.bl s h
/-- a name of a slot -/
theorem pe_slot (C : CK S N sc X W lv) {i : Nat} (h : chkV N sc i x = true) : PE X x (tVar i) := by
  unfold chkV at h
  split at h
  · rename_i s pos
    simp only [Bool.and_eq_true, decide_eq_true_eq] at h
    obtain ⟨⟨h1, h2⟩, h3⟩ := h
    obtain ⟨d1, d2, _⟩ := okN h3
    exact pe_var (by rw [C.n]; exact h1) (C.vis h2) d1 d2
  · cases h
theorem gE_var (C : CK S N sc X W lv) {i : Nat} (h : chkV N sc i x = true) : PE X x (GE X.K S en W (.var i)) := peImp (pe_slot C h) fun σ H Q ⟨δ, b, R, Q', E', I, w, k, ke⟩ => by
  have w' : (match gt δ i with | .vl d => Q' d b | _ => False) := w
  cases hg : gt δ i with
  | vl d =>
    rw [hg] at w'
    obtain ⟨v, h1, h2⟩ := I.val hg
    exact ⟨v, h1, k d b v R H I (StQ.refl I.sub) h2 w'⟩
  | no => rw [hg] at w'; exact w'.elim
  | ow _ => rw [hg] at w'; exact w'.elim
theorem gE_cst {d : D} (h : chkK d x = true) : PE X x (GE X.K S en W (.cst d)) := by
  have fin : ∀ {v : V} {d : D}, (∀ R : Hp, Rp X.K R v d) → ∀ σ H Q, GE X.K S en W (.cst d) σ H Q → tC v σ H Q := fun hr σ H Q ⟨δ, b, R, Q', E', I, w, k, ke⟩ =>
    k _ b _ R H I (StQ.refl I.sub) (hr R) w
  unfold chkK at h
  split at h
  · split at h
    · exact peImp pe_non (fin fun _ => .non)
    · rename_i b c
      have e : b = c := by simpa using h
      subst e
      exact peImp pe_bl (fin fun _ => .bl _)
    · rename_i i j
      have e : i = j := by simpa using h
      subst e
      exact peImp pe_int (fin fun _ => .int _)
    · rename_i s t
      have e : s = t := by simpa using h
      subst e
      exact peImp pe_str (fin fun _ => .str _)
    · cases h
  · cases h
theorem gln (C : CK S N sc X W lv) {s : Str} (h : glName sc s y = true) : ∃ pos, y = .Name s pos ∧ Gl X s ∧ (s == ("__debug__" : Str)) = false ∧ s ≠ "__name__" := by
  unfold glName at h
  split at h
  · rename_i t pos
    simp only [Bool.and_eq_true] at h
    obtain ⟨⟨h1, h2⟩, h3⟩ := h
    have e : t = s := by simpa using h1
    subst e
    obtain ⟨d1, _, d3⟩ := okN h3
    exact ⟨pos, rfl, C.gl h2, d1, d3⟩
  · cases h
theorem gE_glb (C : CK S N sc X W lv) {g : Nat} (hg : S.M.hg g = true) (h : glName sc (S.M.gl g) x = true) : PE X x (GE X.K S en W (.glb g)) := by
  obtain ⟨pos, rfl, h1, h2, h3⟩ := gln C h
  obtain ⟨u, v, m, r, rp⟩ := C.fs.gl g hg
  exact peImp (pe_glob h1 m r h2) fun σ H Q ⟨δ, b, R, Q', E', I, w, k, ke⟩ =>
    k _ b v R H I (StQ.refl I.sub) (rp.mono (fun _ _ z => by cases z)) w

/-! ### operations -/
/-- from a step that only makes new things -/
theorem stp_growS {δ : Env} {b b1 : Ob} {σ : L2.St} {R H R1 H1 R' H' : Hp} (J : ER X.K S.bc en δ b1 σ R1 H1) (st : Stp S.bc b b1 R H R1 H1) (g : Grow R1 H1 R' H') : ER X.K S.bc en δ b1 σ R' H' ∧ Stp S.bc b b1 R H R' H' :=
  ⟨J.grow g, st.trans (J.stpG g)⟩
theorem stp_grow {q : Bool} {δ : Env} {b b1 : Ob} {σ : L2.St} {R H R1 H1 R' H' : Hp} (J : ER X.K S.bc en δ b1 σ R1 H1) (st : StQ S.bc q b b1 R H R1 H1) (g : Grow R1 H1 R' H') : ER X.K S.bc en δ b1 σ R' H' ∧ StQ S.bc q b b1 R H R' H' :=
  ⟨J.grow g, st.st.trans (J.stpG g), st.qb, fun h => (st.qs h).trans g.hh⟩
theorem gE_op1 {o : O1} (hp : PE X x (tUn (r1 X.K o) (GE X.K S en W a))) : PE X x (GE X.K S en W (.op1 o a)) :=
  peImp hp fun σ H Q ⟨δ, b, R, Q', E', I, w, k, ke⟩ => ⟨δ, b, R, fun d b1 => w1 o d fun z => Q' z b1, E', I, w, fun d b1 v R1 H1 J st r q =>
    ⟨R1, d, _, J.sub, r, q, fun z v' R' H' g r' q' => by
      obtain ⟨J2, st2⟩ := stp_grow J st g
      exact k z b1 v' R' H' J2 (st2.weak fun h => (by simp only [quiet, Bool.and_eq_true] at h; exact h.2)) r' q'⟩, ke⟩
theorem gE_op2 {o : O2} (hp : PE X x (tOp (r2 X.K o) (GE X.K S en W a) (GE X.K S en W c))) : PE X x (GE X.K S en W (.op2 o a c)) :=
  peImp hp fun σ H Q ⟨δ, b, R, Q', E', I, w, k, ke⟩ => ⟨δ, b, R, fun d b1 => wE S.G c δ b1 (fun d2 b2 => w2 o d d2 fun z => Q' z b2) E', E', I, w, fun d b1 v R1 H1 J st r q =>
    ⟨δ, b1, R1, fun d2 b2 => w2 o d d2 fun z => Q' z b2, E', J, q, fun d2 b2 v2 R2 H2 J2 st2 r2 q2 =>
      ⟨R2, d, d2, _, J2.sub, r.mono st2.st.rr, r2, q2, fun z v' R' H' g r' q' => by
        obtain ⟨J3, st3⟩ := stp_grow J2 (st.trans st2) g
        exact k z b2 v' R' H' J3 (st3.weak fun h => (by simp only [quiet, Bool.and_eq_true] at h ⊢; exact ⟨h.1.2, h.2⟩)) r' q'⟩, ke⟩, ke⟩
/-- .. a new list of nobody's -/
theorem new_lst {δ : Env} {b b1 : Ob} {σ : L2.St} {R H R1 H1 : Hp} {p : Addr} {o : HO} (I : ER X.K S.bc en δ b σ R H) (J : ER X.K S.bc en δ b1 σ R1 H1) (st : Stp S.bc b b1 R H R1 H1) (n : H1 p = none) :
    ER X.K S.bc en δ b1 σ R1 (upd H1 p o) ∧ Stp S.bc b b1 R H R1 (upd H1 p o) ∧ H p = none ∧ R1 p = none ∧ ¬ Bo S.bc b1 (upd H1 p o) p := by
  have g : Grow R1 H1 R1 (upd H1 p o) := Grow.loose J.sub n
  obtain ⟨J2, st2⟩ := stp_growS J st g
  refine ⟨J2, st2, ?_, J.sub.fre n, fun z => ?_⟩
  · cases e : H p with
    | none => rfl
    | some u =>
      obtain ⟨u', h⟩ := st.dom p u e
      rw [n] at h
      cases h
  · rcases (J.stpG g).bo p z with h | h
    · obtain ⟨_, _, u, hu⟩ := J.bo_no h
      rw [n] at hu
      cases hu
    · obtain ⟨pp, B, aa, e, hp, hq⟩ := z
      obtain ⟨a', r, _⟩ := J.bd pp B e
      have e2 := bdFs_inj (Option.some.inj ((g.hh _ _ r.ins).symm.trans hp))
      subst e2
      obtain ⟨u, hu⟩ := r.tr p hq
      rw [n] at hu
      cases hu
theorem GE.mono {K : PySem.W.Frag} {e : Ex} {σ : L2.St} {H : Hp} {Q Q2 : VK} (h : GE K S en W e σ H Q) (m : ∀ v H, Q v H → Q2 v H) : GE K S en W e σ H Q2 := by
  obtain ⟨δ, b, R, Q', E', I, w, k, ke⟩ := h
  exact ⟨δ, b, R, Q', E', I, w, fun d b' v R' H' J st r q => m _ _ (k d b' v R' H' J st r q), ke⟩
theorem gF_op1 {o : O1} (hp : PE X x (tUn (r1f X.K o) (GE X.K S en W a))) : PE X x (GF X.K S en W (.op1 o a)) :=
  peImp hp fun σ H Q ⟨δ, b, R, Q', E', I, w, k, ke⟩ => ⟨δ, b, R, fun d b1 => w1 o d fun z => Q' z b1, E', I, w, fun d b1 v R1 H1 J st r q =>
    ⟨R1, d, _, J.sub, r, q, fun ds xs p n r' q' => by
      obtain ⟨J2, st2, n0, nr, nb⟩ := new_lst (o := .lst xs) I J st.st n
      exact k ds b1 p xs R1 _ J2 st2 n0 nr nb upd_same r' q'⟩, ke⟩
theorem gF_op2 {o : O2} (hp : PE X x (tOp (r2f X.K o) (GE X.K S en W a) (GE X.K S en W c))) : PE X x (GF X.K S en W (.op2 o a c)) :=
  peImp hp fun σ H Q ⟨δ, b, R, Q', E', I, w, k, ke⟩ => ⟨δ, b, R, fun d b1 => wE S.G c δ b1 (fun d2 b2 => w2 o d d2 fun z => Q' z b2) E', E', I, w, fun d b1 v R1 H1 J st r q =>
    ⟨δ, b1, R1, fun d2 b2 => w2 o d d2 fun z => Q' z b2, E', J, q, fun d2 b2 v2 R2 H2 J2 st2 r2 q2 =>
      ⟨R2, d, d2, _, J2.sub, r.mono st2.st.rr, r2, q2, fun ds xs p n r' q' => by
        obtain ⟨J3, st3, n0, nr, nb⟩ := new_lst (o := .lst xs) I J2 (st.st.trans st2.st) n
        exact k ds b2 p xs R2 _ J3 st3 n0 nr nb upd_same r' q'⟩, ke⟩, ke⟩

/-! ### displays, argument lists -/
theorem gEs_nil : PA X [] (GEs X.K S en W .nil) := paImp pa_nil fun σ H Q ⟨δ, b, R, Q', E', I, w, k, ke⟩ => k [] b [] R H I (Stp.refl I.sub) .nil rfl w
theorem gEs_cons {es : Exs} {ys : List Expr} (ha : PE X y (GE X.K S en W a)) (hr : PA X ys (GEs X.K S en W es)) (hs : starEach (y :: ys) X.env = (false, eval y X.env) :: starEach ys X.env) : PA X (y :: ys) (GEs X.K S en W (.cons a es)) :=
  paImp (pa_cons ha hr hs) fun σ H Q ⟨δ, b, R, Q', E', I, w, k, ke⟩ => ⟨δ, b, R, fun d b1 => wEs S.G es δ b1 (fun ds b2 => Q' (d :: ds) b2) E', E', I, w, fun d b1 v R1 H1 J st r q =>
    ⟨δ, b1, R1, fun ds b2 => Q' (d :: ds) b2, E', J, q, fun ds b2 vs R2 H2 J2 st2 r2 hl q2 => k (d :: ds) b2 (v :: vs) R2 H2 J2 (st.st.trans st2) (.cons (r.mono st2.rr) r2) (by rw [List.length_cons, hl]; rfl) q2, ke⟩, ke⟩
theorem gE_tup {es : Exs} {ys : List Expr} {k0 : Nat} {pos : Pos} (h : PA X ys (GEs X.K S en W es)) (hn : nEs es ≤ 1000) : PE X (.Tuple ys k0 pos) (GE X.K S en W (.tup es)) :=
  peImp (pe_tup h) fun σ H Q ⟨δ, b, R, Q', E', I, w, k, ke⟩ => ⟨δ, b, R, fun ds b1 => Q' (.tup ds) b1, E', I, w, fun ds b1 vs R1 H1 J st r hl q =>
    ⟨by rw [r.length, hl]; exact Nat.le_trans hn (by decide), fun p n => by
      obtain ⟨J2, st2⟩ := stp_growS J st (Grow.new (o := .tup vs) J.sub n)
      exact k (.tup ds) b1 (.ref p) _ _ J2 (StQ.off st2 rfl) (.tup (SqT.of upd_same) (r.mono (Sub.new (J.sub.fre n)))) q⟩, ke⟩
theorem gF_lst {es : Exs} {ys : List Expr} {pos : Pos} (h : PA X ys (GEs X.K S en W es)) (hn : nEs es ≤ 1000) : PE X (.List ys pos) (GF X.K S en W (.lst es)) :=
  peImp (pe_lst h) fun σ H Q ⟨δ, b, R, Q', E', I, w, k, ke⟩ => ⟨δ, b, R, fun ds b1 => Q' (.lst ds) b1, E', I, w, fun ds b1 vs R1 H1 J st r hl q =>
    ⟨by rw [r.length, hl]; exact Nat.le_trans hn (by decide), fun p n => by
      obtain ⟨J2, st2, n0, nr, nb⟩ := new_lst (o := .lst vs) I J st n
      exact k ds b1 p vs R1 _ J2 st2 n0 nr nb upd_same r q⟩, ke⟩
/-! ### slices -/
theorem gO_no : PO X none (GO X.K S en W .no) := ⟨fun pins s σ H Q I0 ⟨δ, b, R, Q', E', I, w, k, ke⟩ => po_none.run pins s σ H Q I0 (k none b R H I (StQ.refl I.sub) w)⟩
theorem gO_so (ha : PE X y (GE X.K S en W a)) : PO X (some y) (GO X.K S en W (.so a)) := ⟨fun pins s σ H Q I0 ⟨δ, b, R, Q', E', I, w, k, ke⟩ =>
  (po_some ha).run pins s σ H Q I0 ⟨δ, b, R, fun x b1 => match x with
    | .int i => Q' (some i) b1
    | _ => False, E', I, w, fun d b1 v R1 H1 J st r q => by
      cases d <;> first | exact q.elim | skip
      cases r
      exact ⟨_, rfl, k _ b1 R1 H1 J st q⟩, ke⟩⟩
theorem gE_sl {lo hi : Ox} {l h : Option Expr} {p2 pos : Pos} (ha : PE X y (GE X.K S en W a)) (hl : PO X l (GO X.K S en W lo)) (hh : PO X h (GO X.K S en W hi)) : PE X (.Subscript y (.Slice l h none p2) pos) (GE X.K S en W (.sl a lo hi)) :=
  peImp (pe_slice b_sl ha hl hh) fun σ H Q ⟨δ, b, R, Q', E', I, w, k, ke⟩ => ⟨δ, b, R, fun x b1 => wO S.G lo δ b1 (fun l b2 => wO S.G hi δ b2 (fun h b3 => wsl x l h fun z => Q' z b3) E') E', E', I, w, fun d b1 v R1 H1 J st r q =>
    ⟨δ, b1, R1, fun l b2 => wO S.G hi δ b2 (fun h b3 => wsl d l h fun z => Q' z b3) E', E', J, q, fun l b2 R2 H2 J2 st2 q2 =>
      ⟨δ, b2, R2, fun h b3 => wsl d l h fun z => Q' z b3, E', J2, q2, fun h b3 R3 H3 J3 st3 q3 =>
        ⟨R3, d, _, J3.sub, (r.mono st2.st.rr).mono st3.st.rr, q3, fun z v' R' H' g r' q' => by
          obtain ⟨J4, st4⟩ := stp_growS J3 ((st.st.trans st2.st).trans st3.st) g
          exact k z b3 v' R' H' J4 (StQ.off st4 rfl) r' q'⟩, ke⟩, ke⟩, ke⟩
/-! ### and, or, not -/
theorem wtest_inv {d : D} {Q : Bool → Prop} (h : wtest d Q) : ∃ t, d = .bl t ∧ Q t := by
  cases d <;> first | exact ⟨_, rfl, h⟩ | exact h.elim
theorem gE_and {r : List Expr} {pos p2 : Pos} {z : Expr} (ha : PE X y (GE X.K S en W a)) (hc : PE X (.BoolOp .And (z :: r) pos) (GE X.K S en W c)) : PE X (.BoolOp .And (y :: z :: r) pos) (GE X.K S en W (.and a c)) :=
  peImp (pe_and ha hc) fun σ H Q ⟨δ, b, R, Q', E', I, w, k, ke⟩ => ⟨δ, b, R, fun x b1 => wtest x fun t => if t then wE S.G c δ b1 Q' E' else Q' (.bl false) b1, E', I, w, fun d b1 v R1 H1 J st rp q => by
    obtain ⟨t, rfl, qq⟩ := wtest_inv q
    cases rp
    refine ⟨t, rfl, ?_⟩
    cases t with
    | true => exact iteT ⟨δ, b1, R1, Q', E', J, by simpa using qq, fun d2 b2 v2 R2 H2 J2 st2 r2 q2 => k d2 b2 v2 R2 H2 J2 ((st.trans st2).weak fun h => by simpa only [quiet] using h) r2 q2, ke⟩
    | false => exact iteF (k _ b1 _ R1 H1 J (st.weak fun h => (by simp only [quiet, Bool.and_eq_true] at h; exact h.1)) (.bl false) (by simpa using qq)), ke⟩
theorem gE_or {r : List Expr} {pos p2 : Pos} {z : Expr} (ha : PE X y (GE X.K S en W a)) (hc : PE X (.BoolOp .Or (z :: r) pos) (GE X.K S en W c)) : PE X (.BoolOp .Or (y :: z :: r) pos) (GE X.K S en W (.or a c)) :=
  peImp (pe_or ha hc) fun σ H Q ⟨δ, b, R, Q', E', I, w, k, ke⟩ => ⟨δ, b, R, fun x b1 => wtest x fun t => if t then Q' (.bl true) b1 else wE S.G c δ b1 Q' E', E', I, w, fun d b1 v R1 H1 J st rp q => by
    obtain ⟨t, rfl, qq⟩ := wtest_inv q
    cases rp
    refine ⟨t, rfl, ?_⟩
    cases t with
    | false => exact iteF ⟨δ, b1, R1, Q', E', J, by simpa using qq, fun d2 b2 v2 R2 H2 J2 st2 r2 q2 => k d2 b2 v2 R2 H2 J2 ((st.trans st2).weak fun h => by simpa only [quiet] using h) r2 q2, ke⟩
    | true => exact iteT (k _ b1 _ R1 H1 J (st.weak fun h => (by simp only [quiet, Bool.and_eq_true] at h; exact h.1)) (.bl true) (by simpa using qq)), ke⟩
theorem gE_one {op : BoolOp} {pos : Pos} (ha : PE X y (GE X.K S en W a)) : PE X (.BoolOp op [y] pos) (GE X.K S en W (.one a)) := peImp (pe_one ha) fun σ H Q ⟨δ, b, R, Q', E', I, w, k, ke⟩ => ⟨δ, b, R, Q', E', I, w, k, ke⟩
theorem gE_not {pos : Pos} (ha : PE X y (GE X.K S en W a)) : PE X (.UnaryOp .Not y pos) (GE X.K S en W (.not a)) :=
  peImp (pe_not ha) fun σ H Q ⟨δ, b, R, Q', E', I, w, k, ke⟩ => ⟨δ, b, R, fun x b1 => wtest x fun t => Q' (.bl (!t)) b1, E', I, w, fun d b1 v R1 H1 J st rp q => by
    obtain ⟨t, rfl, q⟩ := wtest_inv q
    cases rp
    exact ⟨t, rfl, k _ b1 _ R1 H1 J st (.bl _) q⟩, ke⟩
/-- an expression as a test -/
theorem gT_val (ha : PE X y (GE X.K S en W a)) (he : ∀ whole, isTrue y X.env whole = (do let v ← whole; standAt y.pos; holding [v] (truthy v))) : PT X y (GT X.K S en W a) :=
  ptImp (pt_val ha he) fun σ H Q ⟨δ, b, R, Q', E', I, w, k, ke⟩ => ⟨δ, b, R, _, E', I, w, fun d b1 v R1 H1 J st rp q => by
    obtain ⟨t, rfl, q⟩ := wtest_inv q
    cases rp
    exact ⟨t, rfl, k t b1 R1 H1 J st.st q⟩, ke⟩
theorem gT_cmp {o : O2} {op : CmpOp} {z : Expr} {pos : Pos} (ho : OpR X (compareOp op) (r2 X.K o)) (ha : PE X y (GE X.K S en W a)) (hc : PE X z (GE X.K S en W c)) (hm : behindInMarks op z = false) : PT X (.Compare y [op] [z] pos) (GT X.K S en W (.op2 o a c)) :=
  ptImp (pt_cmpR ho ha hc hm) fun σ H Q ⟨δ, b, R, Q', E', I, w, k, ke⟩ => ⟨δ, b, R, _, E', I, w, fun d b1 v R1 H1 J st r q =>
    ⟨δ, b1, R1, _, E', J, q, fun d2 b2 v2 R2 H2 J2 st2 r2 q2 =>
      ⟨R2, d, d2, _, J2.sub, r.mono st2.st.rr, r2, q2, fun z v' R' H' g r' q' => by
        obtain ⟨J3, st3⟩ := stp_growS J2 (st.st.trans st2.st) g
        obtain ⟨t, rfl, q'⟩ := wtest_inv q'
        cases r'
        exact ⟨t, rfl, k t b2 R' H' J3 st3 q'⟩⟩, ke⟩, ke⟩
theorem gT_and {r : List Expr} {pos : Pos} {z : Expr} (ha : PT X y (GT X.K S en W a)) (hc : PW X (.BoolOp .And (z :: r) pos) (GT X.K S en W c)) : PW X (.BoolOp .And (y :: z :: r) pos) (GT X.K S en W (.and a c)) := by
  refine ⟨fun wh pins s σ H Q I0 ⟨δ, b, R, Q', E', I, w, k, ke⟩ => (pw_and ha hc).run wh pins s σ H Q I0 ?_⟩
  refine ⟨δ, b, R, fun t b1 => if t then wE S.G c δ b1 (fun d b' => wtest d fun t => Q' t b') E' else Q' false b1, E', I, ?_, fun t b1 R1 H1 J st q => ?_, ke⟩
  · have w' : wE S.G a δ b (fun x b1 => wtest x fun t => if t then wE S.G c δ b1 (fun d b' => wtest d fun t => Q' t b') E' else wtest (.bl false) fun t => Q' t b1) E' := w
    exact w'
  · cases t with
    | true => exact iteT ⟨δ, b1, R1, Q', E', J, by simpa using q, fun t b2 R2 H2 J2 st2 q2 => k t b2 R2 H2 J2 (st.trans st2) q2, ke⟩
    | false => exact iteF (k false b1 R1 H1 J st (by simpa using q))
theorem gT_or {r : List Expr} {pos : Pos} {z : Expr} (ha : PT X y (GT X.K S en W a)) (hc : PW X (.BoolOp .Or (z :: r) pos) (GT X.K S en W c)) : PW X (.BoolOp .Or (y :: z :: r) pos) (GT X.K S en W (.or a c)) := by
  refine ⟨fun wh pins s σ H Q I0 ⟨δ, b, R, Q', E', I, w, k, ke⟩ => (pw_or ha hc).run wh pins s σ H Q I0 ?_⟩
  refine ⟨δ, b, R, fun t b1 => if t then Q' true b1 else wE S.G c δ b1 (fun d b' => wtest d fun t => Q' t b') E', E', I, ?_, fun t b1 R1 H1 J st q => ?_, ke⟩
  · have w' : wE S.G a δ b (fun x b1 => wtest x fun t => if t then wtest (.bl true) fun t => Q' t b1 else wE S.G c δ b1 (fun d b' => wtest d fun t => Q' t b') E') E' := w
    exact w'
  · cases t with
    | false => exact iteF ⟨δ, b1, R1, Q', E', J, by simpa using q, fun t b2 R2 H2 J2 st2 q2 => k t b2 R2 H2 J2 (st.trans st2) q2, ke⟩
    | true => exact iteT (k true b1 R1 H1 J st (by simpa using q))
theorem gT_one1 {pos : Pos} (ha : PT X y (GT X.K S en W a)) : PW X (.BoolOp .And [y] pos) (GT X.K S en W (.one a)) :=
  ⟨fun wh pins s σ H Q I0 ⟨δ, b, R, Q', E', I, w, k, ke⟩ => (pw_and1 ha).run wh pins s σ H Q I0 ⟨δ, b, R, Q', E', I, w, k, ke⟩⟩
theorem gT_one2 {pos : Pos} (ha : PT X y (GT X.K S en W a)) : PW X (.BoolOp .Or [y] pos) (GT X.K S en W (.one a)) :=
  ⟨fun wh pins s σ H Q I0 ⟨δ, b, R, Q', E', I, w, k, ke⟩ => (pw_or1 ha).run wh pins s σ H Q I0 ⟨δ, b, R, Q', E', I, w, k, ke⟩⟩
theorem gT_not {pos : Pos} (ha : PT X y (GT X.K S en W a)) : PT X (.UnaryOp .Not y pos) (GT X.K S en W (.not a)) :=
  ptImp (pt_not ha) fun σ H Q ⟨δ, b, R, Q', E', I, w, k, ke⟩ => ⟨δ, b, R, fun t b1 => Q' (!t) b1, E', I, w, fun t b1 R1 H1 J st q => k (!t) b1 R1 H1 J st q, ke⟩
end
end LK

/-! Calls, own lists, the object's fields, sources, comprehensions. -/
namespace LK
open PySem PySem.Spec PyProof.Rows L2

section
variable {K : PySem.W.Frag} {bc : Addr} {en : En} {δ : Env} {b b' : Ob} {σ : L2.St} {R H R' H' : Hp}
theorem Rps.slots : ∀ {vs : List V} {ds : List D}, Rps K R vs ds → ∀ i v, (vs.map some)[i]? = some v → SlR K R H (gt (ds.map .vl) i) v
  | _, _, .nil, i, v, e => by simp at e
  | _, _, .cons h _, 0, v, e => by
    simp at e
    subst e
    exact .vl h
  | _, _, .cons _ r, i + 1, v, e => Rps.slots r i v (by simpa using e)
theorem gt_vls : ∀ {ds : List D} {i : Nat} {es : List D}, gt (ds.map .vl) i ≠ .ow es
  | [], _, _, h => nomatch h
  | _ :: _, 0, _, h => nomatch h
  | _ :: ds, i + 1, es, h => gt_vls (ds := ds) (i := i) h
/-- a call's entry -/
theorem ER.entry (I : ER K bc en δ b σ R H) {vs : List V} {ds : List D} (r : Rps K R vs ds) : ER K bc ⟨H, R, b⟩ (ds.map .vl) b (vs.map some) R H where
  len := by rw [List.length_map, List.length_map, r.length]
  sub := I.sub
  stp := Stp.refl I.sub
  sl := fun i v e => r.slots i v e
  own := fun i p ⟨es, h, _⟩ => absurd h gt_vls
  dis := fun i j p ⟨es, h, _⟩ => absurd h gt_vls
  bd := fun p B e => by
    obtain ⟨a, r, _⟩ := I.bd p B e
    exact ⟨a, r, fun i q ⟨es, h, _⟩ => absurd h gt_vls⟩
theorem ER.back (I : ER K bc en δ b σ R H) {δ' : Env} {σ' : L2.St} (J : ER K bc ⟨H, R, b⟩ δ' b' σ' R' H') : ER K bc en δ b' σ R' H' ∧ Stp bc b b' R H R' H' :=
  ⟨I.go J.stp J.sub fun p B e => by
    obtain ⟨a, r, _⟩ := J.bd p B e
    exact ⟨a, r⟩, J.stp⟩
/-- a list that is tracked, of nobody's, is turned -/
theorem ER.loose (I : ER K bc en δ b σ R H) {q : Addr} {o : HO} (f : Fre bc en δ b σ R H q) (hq : ∃ xs, H q = some (.lst xs)) (ho : ∃ xs, o = .lst xs) : ER K bc en δ b σ R (upd H q o) := by
  obtain ⟨zs, hz⟩ := hq
  obtain ⟨ys, rfl⟩ := ho
  have bo' : ∀ c, Bo bc b (upd H q (.lst ys)) c → Bo bc b H c := fun c ⟨p', B, a, e, h, hc⟩ => by
    by_cases hz : p' = q
    · subst hz
      rw [upd_same] at h
      cases h
    · rw [upd_ne hz] at h
      exact ⟨p', B, a, e, h, hc⟩
  refine ⟨I.len, fun c u e => ?_, ⟨I.stp.rr, I.stp.old, fun c u e => ?_, fun c u e n => ?_, fun c z => I.stp.bo c (bo' c z)⟩, fun j u e => ?_, I.own, I.dis, fun p B e => ?_⟩
  · rw [upd_ne (ne_of_none e f.nr)]
    exact I.sub c u e
  · by_cases hc : c = q
    · subst hc
      exact ⟨_, upd_same⟩
    · rw [upd_ne hc]
      exact I.stp.dom c u e
  · rw [upd_ne (ne_of_none e f.h0)]
    exact I.stp.out c u e n
  · have h := I.sl j u e
    cases hg : gt δ j with
    | no => exact .no
    | vl d =>
      rw [hg] at h
      cases h with
      | vl r => exact .vl r
    | ow fs =>
      rw [hg] at h
      cases h with
      | ow h1 h2 h3 =>
        refine .ow ?_ h2 h3
        rw [upd_ne]
        · exact h1
        · rintro rfl
          exact f.no j ⟨fs, hg, e⟩
  · obtain ⟨a, r', n⟩ := I.bd p B e
    have hn : ∀ c ∈ a.own p B.ro, c ≠ q := fun c hc z => f.nb (by rw [e, ← z]; exact (Bo.iff r').mpr hc)
    obtain ⟨x1, h1, q1⟩ := r'.hd
    obtain ⟨x2, h2, q2⟩ := r'.tl
    obtain ⟨x3, h3, q3⟩ := r'.rw
    have m0 : p ∈ a.own p B.ro := by unfold BdA.own; split <;> simp
    have m1 : a.ph ∈ a.own p B.ro := by unfold BdA.own; split <;> simp
    have m2 : a.pt ∈ a.own p B.ro := by unfold BdA.own; split <;> simp
    have m3 : a.pr ≠ q := by
      by_cases hz : B.ro = true
      · exact hn _ (by unfold BdA.own; rw [if_pos hz]; simp)
      · obtain ⟨ys, hy⟩ := r'.fz (by simpa using hz)
        exact ne_of_none hy f.nr
    refine ⟨a, ⟨?_, ⟨x1, ?_, q1⟩, ⟨x2, ?_, q2⟩, ⟨x3, ?_, q3⟩, r'.gl, r'.fz, r'.nr, r'.nd⟩, n⟩
    · rw [upd_ne (hn _ m0)]; exact r'.ins
    · rw [upd_ne (hn _ m1)]; exact h1
    · rw [upd_ne (hn _ m2)]; exact h2
    · rw [upd_ne m3]; exact h3
/-- .. seen from where it was not -/
theorem Stp.loose (x : Stp bc b b' R H R' H') {q : Addr} {ys : List V} (n : H q = none) : Stp bc b b' R H R' (upd H' q (.lst ys)) :=
  ⟨x.rr, x.old, fun c u e => by
    by_cases hc : c = q
    · subst hc
      exact ⟨_, upd_same⟩
    · rw [upd_ne hc]
      exact x.dom c u e, fun c u e z => by
    rw [upd_ne (ne_of_none e n)]
    exact x.out c u e z, fun c ⟨p', B, a, e, h, hc⟩ => by
    by_cases hz : p' = q
    · subst hz
      rw [upd_same] at h
      cases h
    · rw [upd_ne hz] at h
      exact x.bo c ⟨p', B, a, e, h, hc⟩⟩
end

section
variable {S : Sy} {en : En} {N : List Str} {sc : Scope} {X : Cx} {W : WX} {lv : Nat} {x y z : Expr} {e a c : Ex}
/-! ### calls -/
theorem gE_call (C : CK S N sc X W lv) {f : Nat} {es : Exs} {ys : List Expr} {g : Expr} {pos : Pos} (hf : S.M.hf f = true) (hfr : S.G.fr f = false) (hg : glName sc (S.M.fn f) g = true) (ha : PA X (y :: ys) (GEs X.K S en W es))
    (hs : starEach (y :: ys) X.env = (false, eval y X.env) :: starEach ys X.env) (hpl : (backTo pos (starEach ys X.env)).any (·.1) = false) : PE X (.Call g (y :: ys) [] pos) (GE X.K S en W (.call f es)) := by
  obtain ⟨p0, rfl, h1, h2, h3⟩ := gln C hg
  obtain ⟨fa, hm, F⟩ := C.fs.fn f hf
  obtain ⟨fd, ps, hb, ok⟩ := F.ok
  exact peImp (pe_callS ok (C.room.mono (Nat.le_succ _)) h1 hm F.k hb (fun σ => passAt C.tk σ) ha h2 hs hpl) fun σ H Q ⟨δ, b, R, Q', E', I, w, k, ke⟩ => ⟨δ, b, R, fun ds b1 => S.G.sp f ds b1 Q' E', E', I, w, fun ds b1 vs R1 H1 J st r _ q =>
    ⟨ds, b1, R1, Q', E', J.entry r, q, fun d b' v R' H' o hq => by
      unfold Out at o
      rw [hfr] at o
      have o' : ER X.K S.bc ⟨H1, R1, b1⟩ [.vl d] b' [some v] R' H' := by simpa using o
      obtain ⟨J2, st2⟩ := J.back o'
      have rv : Rp X.K R' v d := by
        have h := o'.sl 0 (some v) rfl
        cases h with
        | vl r => exact r
      exact k d b' v R' H' J2 (StQ.off (st.trans st2) rfl) rv hq, fun c R' H' hh o hc => ke c R' H' hh (J.back o).1 hc⟩, ke⟩
theorem gF_call (C : CK S N sc X W lv) {f : Nat} {es : Exs} {ys : List Expr} {g : Expr} {pos : Pos} (hf : S.M.hf f = true) (hfr : S.G.fr f = true) (hg : glName sc (S.M.fn f) g = true) (ha : PA X (y :: ys) (GEs X.K S en W es))
    (hs : starEach (y :: ys) X.env = (false, eval y X.env) :: starEach ys X.env) (hpl : (backTo pos (starEach ys X.env)).any (·.1) = false) : PE X (.Call g (y :: ys) [] pos) (GF X.K S en W (.call f es)) := by
  obtain ⟨p0, rfl, h1, h2, h3⟩ := gln C hg
  obtain ⟨fa, hm, F⟩ := C.fs.fn f hf
  obtain ⟨fd, ps, hb, ok⟩ := F.ok
  exact peImp (pe_callS ok (C.room.mono (Nat.le_succ _)) h1 hm F.k hb (fun σ => passAt C.tk σ) ha h2 hs hpl) fun σ H Q ⟨δ, b, R, Q', E', I, w, k, ke⟩ => ⟨δ, b, R, fun ds b1 => S.G.sp f ds b1 Q' E', E', I, w, fun ds b1 vs R1 H1 J st r _ q =>
    ⟨ds, b1, R1, Q', E', J.entry r, q, fun d b' v R' H' o hq => by
      unfold Out at o
      rw [if_pos hfr] at o
      obtain ⟨fs, rfl, o'⟩ := o
      obtain ⟨J2, st2⟩ := J.back o'
      have h := o'.sl 0 (some v) rfl
      cases h with
      | @ow p xs _ h1 h2 h3 =>
        have oa : OwnAt [.ow fs] [some (.ref p)] 0 p := ⟨fs, rfl, rfl⟩
        have n1 : H1 p = none := o'.own 0 p oa
        have n0 : H p = none := by
          cases e : H p with
          | none => rfl
          | some u =>
            obtain ⟨u', hu⟩ := st.dom p u e
            rw [n1] at hu
            cases hu
        exact k fs b' p xs R' H' J2 (st.trans st2) n0 h3 (fun z => (o'.bo_no z).2.1 0 oa) h1 h2 hq, fun c R' H' hh o hc => ke c R' H' hh (J.back o).1 hc⟩, ke⟩
/-! ### own lists -/
theorem gE_oix (C : CK S N sc X W lv) {i : Nat} {pos : Pos} (h : chkV N sc i y = true) (he : PE X z (GE X.K S en W e)) (hp : PlainIx z) : PE X (.Subscript y z pos) (GE X.K S en W (.oix i e)) :=
  peImp (pe_ix ix_list (pe_slot C h) he hp) fun σ H Q ⟨δ, b, R, Q', E', I, w, k, ke⟩ => by
    have w' : (match gt δ i with
      | .ow ds => wE S.G e δ b (fun x b1 => match x with
        | .int k => ∃ d, L2.atI ds k = some d ∧ Q' d b1
        | _ => False) E'
      | _ => False) := w
    cases hg : gt δ i with
    | no => rw [hg] at w'; exact w'.elim
    | vl _ => rw [hg] at w'; exact w'.elim
    | ow ds =>
      rw [hg] at w'
      obtain ⟨p, xs, h1, oa, h2, h3, h4⟩ := I.owl hg
      refine ⟨.ref p, h1, δ, b, R, _, E', I, w', fun d b1 v R1 H1 J st r q => ?_, ke⟩
      cases d <;> first | exact q.elim | skip
      cases r
      obtain ⟨d, q1, q⟩ := q
      obtain ⟨p', xs', e1, _, e2, e3, _⟩ := J.owl hg
      rw [h1] at e1
      cases e1
      obtain ⟨v, v1, v2⟩ := e3.at q1
      exact ⟨p, xs', _, v, rfl, rfl, SqL.of e2, v1, k d b1 v R1 H1 J (st.weak fun h => h) v2 q⟩
end
end LK

/-! The object's fields; sources; comprehensions. -/
namespace LK
open PySem PySem.Spec PyProof.Rows L2

/-- no star, no slice, no set display -/
def ordX : Expr → Bool
  | .Starred .. => false
  | .Slice .. => false
  | .Set .. => false
  | _ => true
theorem chkE_ord {M : Nms} {N : List Str} {sc : Scope} {e : Ex} {x : Expr} (h : chkE M N sc e x = true) : ordX x = true := by
  cases x <;> first | rfl | skip
  all_goals
    exfalso
    cases e <;> try (simp [chkE, chkV, chkK, glName, chkF] at h; done)
    · rename_i o a
      cases o <;> simp [chkE, blt1, isiT] at h
    · rename_i o a c
      cases o <;> simp [chkE, binT, cmpT, blt2] at h
theorem star_of {x : Expr} (h : ordX x = true) (xs : List Expr) (env : PySem.Env) : starEach (x :: xs) env = (false, eval x env) :: starEach xs env := by
  cases x <;> first | rfl | exact Bool.noConfusion h
theorem plainIx_of {x : Expr} (h : ordX x = true) : PlainIx x := fun o i => by
  cases x <;> first | rfl | exact Bool.noConfusion h
theorem noSet_of {x : Expr} (h : ordX x = true) {env : PySem.Env} (v : Value) : foldedSetIterable x env v = pure v := by
  cases x <;> first | rfl | exact Bool.noConfusion h
theorem marks_of {x : Expr} (h : ordX x = true) (op : CmpOp) : behindInMarks op x = false := by
  cases x <;> first | rfl | exact Bool.noConfusion h
theorem stars_of : ∀ {xs : List Expr}, (∀ x ∈ xs, ordX x = true) → ∀ (pos : Pos) (env : PySem.Env), (backTo pos (starEach xs env)).any (·.1) = false
  | [], _, _, _ => rfl
  | x :: xs, h, pos, env => by
    rw [star_of (h x List.mem_cons_self)]
    have ih := stars_of (fun y hy => h y (List.mem_cons_of_mem _ hy)) pos env
    unfold backTo at ih ⊢
    rw [List.map_cons, List.any_cons, ih]
    rfl
theorem chkEs_ord {M : Nms} {N : List Str} {sc : Scope} : ∀ {es : Exs} {xs : List Expr}, chkEs M N sc es xs = true → (∀ x ∈ xs, ordX x = true) ∧ nEs es = xs.length
  | .nil, xs, h => by
    have e : xs = [] := by
      cases xs with
      | nil => rfl
      | cons _ _ => simp [chkEs] at h
    subst e
    exact ⟨fun _ hx => (by cases hx), rfl⟩
  | .cons e es, [], h => by simp [chkEs] at h
  | .cons e es, x :: xs, h => by
    simp only [chkEs, Bool.and_eq_true] at h
    obtain ⟨h1, h2⟩ := chkEs_ord h.2
    refine ⟨fun y hy => ?_, by rw [List.length_cons, ← h2]; rfl⟩
    rcases List.mem_cons.mp hy with e | hy
    · rw [e]; exact chkE_ord h.1
    · exact h1 y hy

/-! ### fields -/
def fadr (a : BdA) : Fl → Addr
  | .heads => a.ph
  | .tails => a.pt
  | .rows => a.pr
  | .goal => a.pg
theorem fs_look (a : BdA) (f : Fl) : (bdFs a).lookup (flName f) = some (.ref (fadr a f)) := by
  cases f <;> rfl
section
variable {S : Sy} {en : En} {N : List Str} {sc : Scope} {X : Cx} {W : WX} {lv : Nat} {x y z : Expr} {e a c : Ex}
theorem theB_inv {δ : Env} {v : Nat} {b : Ob} {Q : Addr → Bd → Prop} (h : theB δ v b Q) : ∃ p B, gt δ v = .vl (.brd p) ∧ b = some (p, B) ∧ Q p B := by
  unfold theB at h
  cases hg : gt δ v with
  | no => rw [hg] at h; exact h.elim
  | ow _ => rw [hg] at h; exact h.elim
  | vl d =>
    rw [hg] at h
    cases d <;> first | exact h.elim | skip
    rename_i p
    cases b with
    | none => exact h.elim
    | some q =>
      obtain ⟨rfl, h⟩ := h
      exact ⟨q.1, q.2, rfl, rfl, h⟩
theorem BdR.fl {K : PySem.W.Frag} {bc : Addr} {R H : Hp} {p : Addr} {B : Bd} {a : BdA} (r : BdR K bc R H p B a) (hs : Sub R H) (f : Fl) : ∃ xs, H (fadr a f) = some (.lst xs) ∧ Rps K R xs (fld B f) := by
  cases f with
  | heads => exact r.hd
  | tails => exact r.tl
  | rows => exact r.rw
  | goal =>
    obtain ⟨xs, h1, h2⟩ := r.gl
    exact ⟨xs, hs _ _ h1, h2⟩
theorem chkF_inv {M : Nms} {f : Fl} {v : Nat} (h : chkF M N sc f v x = true) : M.hb = true ∧ ∃ o pos, x = .Attribute o (flName f) pos ∧ chkV N sc v o = true := by
  unfold chkF at h
  split at h
  · simp only [Bool.and_eq_true] at h
    obtain ⟨⟨h1, h2⟩, h3⟩ := h
    have e := beq_iff_eq.mp h3
    subst e
    exact ⟨h1, _, _, rfl, h2⟩
  · cases h
theorem base_V {v : Nat} {o : Expr} (h : chkV N sc v o = true) (f : Str) (env : PySem.Env) (whole : Sem Value) : attributeBase o f env whole = whole := by
  unfold chkV at h
  split at h
  · rfl
  · cases h
/-- a field, read -/
theorem pe_field (C : CK S N sc X W lv) {f : Fl} {v : Nat} (h : chkF S.M N sc f v x = true) : PE X x (tFld X.K (tVar v) (flName f)) := by
  obtain ⟨_, o, pos, rfl, hv⟩ := chkF_inv h
  exact pe_fld (pe_slot C hv) (base_V hv _ _ _)
theorem fld_read (C : CK S N sc X W lv) {f : Fl} {v : Nat} (h : chkF S.M N sc f v x = true) {δ : Env} {b : Ob} {σ : L2.St} {R H : Hp} (I : ER X.K S.bc en δ b σ R H) {p : Addr} {B : Bd} (hg : gt δ v = .vl (.brd p)) (hb : b = some (p, B)) :
    ∃ a xs, H (fadr a f) = some (.lst xs) ∧ Rps X.K R xs (fld B f) ∧ (f = .goal → R (fadr a f) = some (.lst xs)) ∧ ∀ Q : VK, Q (.ref (fadr a f)) H → tFld X.K (tVar v) (flName f) σ H Q := by
  obtain ⟨hbd, _⟩ := chkF_inv h
  have F := C.fs.bd hbd
  obtain ⟨u, h1, h2⟩ := I.val hg
  cases h2
  obtain ⟨a, r, _⟩ := I.bd p B hb
  obtain ⟨xs, h3, h4⟩ := r.fl I.sub f
  refine ⟨a, xs, h3, h4, fun e => ?_, fun Q q => ⟨.ref p, h1, p, S.bc, a.dx, bdFs a, _, rfl, r.ins, F.c, F.n f, fs_look a f, q⟩⟩
  subst e
  obtain ⟨ys, g1, g2⟩ := r.gl
  have e := I.sub _ _ g1
  have e2 : fadr a .goal = a.pg := rfl
  rw [e2] at h3 ⊢
  rw [e] at h3
  cases h3
  exact g1
theorem gE_fix (C : CK S N sc X W lv) {f : Fl} {v : Nat} {pos : Pos} (hq : quiet e = true) (h : chkF S.M N sc f v y = true) (he : PE X z (GE X.K S en W e)) (hp : PlainIx z) : PE X (.Subscript y z pos) (GE X.K S en W (.fix f v e)) :=
  peImp (pe_ix ix_list (pe_field C h) he hp) fun σ H Q ⟨δ, b, R, Q', E', I, w, k, ke⟩ => by
    obtain ⟨p, B, hg, hb, w⟩ := theB_inv w
    obtain ⟨a, xs, h1, h2, _, h3⟩ := fld_read C h I hg hb
    refine h3 _ ⟨δ, b, R, _, E', I, w, fun d b1 v R1 H1 J st r q => ?_, ke⟩
    cases d <;> first | exact q.elim | skip
    cases r
    obtain ⟨d, q1, q⟩ := q
    obtain ⟨v, v1, v2⟩ := h2.at q1
    exact ⟨_, xs, _, v, rfl, rfl, SqL.of (st.qs hq _ _ h1), v1, k d b1 v R1 H1 J (st.weak fun h => h) (v2.mono st.st.rr) q⟩
theorem gE_flen (C : CK S N sc X W lv) {f : Fl} {v : Nat} {g : Expr} {pos : Pos} (hl : glName sc "len" g = true) (h : chkF S.M N sc f v y = true) : PE X (.Call g [y] [] pos) (GE X.K S en W (.flen f v)) := by
  obtain ⟨p0, rfl, h1, h2, h3⟩ := gln C hl
  have ho : ordX y = true := by
    obtain ⟨_, o, q, rfl, _⟩ := chkF_inv h
    rfl
  refine peImp (pe_callB call_len_seq h1 (blt_none C (by decide +kernel)) PySem.boot_len (pa_cons (pe_field C h) pa_nil (star_of ho [] _)) h3 h2 (star_of ho [] _) rfl) fun σ H Q ⟨δ, b, R, Q', E', I, w, k, ke⟩ => ?_
  obtain ⟨p, B, hg, hb, w⟩ := theB_inv w
  obtain ⟨a, xs, h1, h2, _, h3⟩ := fld_read C h I hg hb
  refine h3 _ ⟨_, xs, rfl, .inl (SqL.of h1), ?_⟩
  rw [h2.length]
  exact k _ b _ R H I (StQ.refl I.sub) (.int _) w
theorem inV_ints (k : Int) : ∀ ns : List Int, inV (.int k) (ns.map V.int) = decide (k ∈ ns)
  | [] => rfl
  | n :: ns => by
    have ih := inV_ints k ns
    unfold inV at ih ⊢
    rw [List.map_cons, List.any_cons, ih]
    show ((n == k) || decide (k ∈ ns)) = decide (k ∈ n :: ns)
    by_cases h : k = n
    · subst h; simp
    · have h' : ¬ n = k := fun e => h e.symm
      simp [h, h']
theorem flat_ints : ∀ ns : List Int, (ns.map V.int).all flatV = true
  | [] => rfl
  | n :: ns => by
    rw [List.map_cons, List.all_cons, flat_ints ns]
    rfl
theorem gE_fin (C : CK S N sc X W lv) {f : Fl} {v : Nat} {pos : Pos} (h : chkF S.M N sc f v z = true) (he : PE X y (GE X.K S en W e)) : PE X (.Compare y [.In] [z] pos) (GE X.K S en W (.fin f v e)) := by
  have ho : ordX z = true := by
    obtain ⟨_, o, q, rfl, _⟩ := chkF_inv h
    rfl
  refine peImp (pe_cmpR op_in_seq he (pe_field C h) (marks_of ho _)) fun σ H Q ⟨δ, b, R, Q', E', I, w, k, ke⟩ => ⟨δ, b, R, _, E', I, w, fun d b1 u R1 H1 J st r q => ?_, ke⟩
  obtain ⟨p, B, hg, hb, q⟩ := theB_inv q
  cases d <;> first | exact q.elim | skip
  cases r
  obtain ⟨ns, e1, q⟩ := q
  obtain ⟨a, xs, h1, h2, _, h3⟩ := fld_read C h J hg hb
  rw [e1] at h2
  have e2 := h2.ints
  subst e2
  refine h3 _ ⟨_, _, rfl, .inl (SqL.of h1), rfl, flat_ints ns, ?_⟩
  show Q (.bl (inV _ _)) H1
  rw [inV_ints]
  exact k _ b1 _ R1 H1 J (st.weak fun h => h) (.bl _) q
theorem gT_fin (C : CK S N sc X W lv) {f : Fl} {v : Nat} {pos : Pos} (h : chkF S.M N sc f v z = true) (he : PE X y (GE X.K S en W e)) : PT X (.Compare y [.In] [z] pos) (GT X.K S en W (.fin f v e)) := by
  have ho : ordX z = true := by
    obtain ⟨_, o, q, rfl, _⟩ := chkF_inv h
    rfl
  refine ptImp (pt_cmpR op_in_seq he (pe_field C h) (marks_of ho _)) fun σ H Q ⟨δ, b, R, Q', E', I, w, k, ke⟩ => ⟨δ, b, R, _, E', I, w, fun d b1 u R1 H1 J st r q => ?_, ke⟩
  obtain ⟨p, B, hg, hb, q⟩ := theB_inv q
  cases d <;> first | exact q.elim | skip
  cases r
  obtain ⟨ns, e1, q⟩ := q
  obtain ⟨a, xs, h1, h2, _, h3⟩ := fld_read C h J hg hb
  rw [e1] at h2
  have e2 := h2.ints
  subst e2
  refine h3 _ ⟨_, _, rfl, .inl (SqL.of h1), rfl, flat_ints ns, _, rfl, ?_⟩
  show Q (inV _ _) H1
  rw [inV_ints]
  exact k _ b1 R1 H1 J st.st q
theorem gE_fidx (C : CK S N sc X W lv) {f : Fl} {v : Nat} {ap cp : Pos} (hq : quiet e = true) (h : chkF S.M N sc f v y = true) (hl : (ap.endLine == cp.line) = true) (hz : ordX z = true) (he : PE X z (GE X.K S en W e)) : PE X (.Call (.Attribute y "index" ap) [z] [] cp) (GE X.K S en W (.fidx f v e)) := by
  have hbase : ∀ whole, attributeBase y "index" X.env whole = whole := fun whole => by
    obtain ⟨_, o, q, rfl, _⟩ := chkF_inv h
    rfl
  have hs := star_of hz [] X.env
  refine peImp (pe_bm PySem.F.plainAttrs_list PySem.F.slot_list_index PySem.F.type_list_index mt_index (pe_field C h) (pa_cons he pa_nil hs) (hbase _) (by rw [hs]; rfl) hl hs rfl) fun σ H Q ⟨δ, b, R, Q', E', I, w, k, ke⟩ => ?_
  obtain ⟨p, B, hg, hb, w⟩ := theB_inv w
  obtain ⟨a, xs, h1, h2, _, h3⟩ := fld_read C h I hg hb
  refine h3 _ ⟨.inl ⟨rfl, _, SqL.of h1⟩, δ, b, R, _, E', I, w, fun d b1 u R1 H1 J st r q => ?_, ke⟩
  cases d <;> first | exact q.elim | skip
  rename_i m
  cases r
  obtain ⟨ns, e1, e2, q⟩ := q
  rw [e1] at h2
  have e3 := h2.ints
  subst e3
  have lt : ns.idxOf m < ns.length := List.idxOf_lt_length_iff.mpr e2
  refine ⟨_, _, .int m, ns.idxOf m, .int m, rfl, rfl, SqL.of (st.qs hq _ _ h1), rfl, flat_ints ns, ?_, ?_, fun j z' hj hz' => ?_, k _ b1 _ R1 H1 J (st.weak fun h => h) (.int _) q⟩
  · rw [List.getElem?_map, List.getElem?_eq_getElem lt, List.getElem_idxOf]
    rfl
  · show (m == m) = true
    exact beq_self_eq_true m
  · rw [List.getElem?_map] at hz'
    cases e4 : ns[j]? with
    | none => rw [e4] at hz'; cases hz'
    | some t =>
      rw [e4] at hz'
      cases hz'
      show (t == m) = false
      obtain ⟨hj', e5⟩ := List.getElem?_eq_some_iff.mp e4
      have := List.not_of_lt_findIdx (p := fun x => x == m) (xs := ns) (i := j) hj
      rw [← e5]
      simpa using this
theorem gE_fgoal (C : CK S N sc X W lv) {v : Nat} (h : chkF S.M N sc .goal v x = true) : PE X x (GE X.K S en W (.fgoal v)) :=
  peImp (pe_field C h) fun σ H Q ⟨δ, b, R, Q', E', I, w, k, ke⟩ => by
    obtain ⟨p, B, hg, hb, w⟩ := theB_inv w
    obtain ⟨a, xs, h1, h2, hR, h3⟩ := fld_read C h I hg hb
    exact h3 _ (k _ b _ R H I (StQ.refl I.sub) (.lst (hR rfl) h2) w)
theorem gE_fsl (C : CK S N sc X W lv) {f : Fl} {v : Nat} {lo hi : Ox} {l h' : Option Expr} {p2 pos : Pos} (q1 : quietO lo = true) (q2 : quietO hi = true) (h : chkF S.M N sc f v y = true) (hl : PO X l (GO X.K S en W lo)) (hh : PO X h' (GO X.K S en W hi)) :
    PE X (.Subscript y (.Slice l h' none p2) pos) (GE X.K S en W (.fsl f v lo hi)) :=
  peImp (pe_slice sl_list (pe_field C h) hl hh) fun σ H Q ⟨δ, b, R, Q', E', I, w, k, ke⟩ => by
    obtain ⟨p, B, hg, hb, w⟩ := theB_inv w
    obtain ⟨a, xs, h1, h2, _, h3⟩ := fld_read C h I hg hb
    refine h3 _ ⟨δ, b, R, _, E', I, w, fun l b1 R1 H1 J st q => ⟨δ, b1, R1, _, E', J, q, fun u b2 R2 H2 J2 st2 q' => ?_, ke⟩, ke⟩
    refine ⟨_, xs, rfl, SqL.of (st2.qs q2 _ _ (st.qs q1 _ _ h1)), fun r hr => ?_⟩
    obtain ⟨J3, st3⟩ := stp_growS J2 (st.st.trans st2.st) (Grow.new (o := .lst (cutV xs l u)) J2.sub hr)
    exact k _ b2 (.ref r) _ _ J3 (StQ.off st3 rfl) (.lst upd_same (((h2.cut l u).mono (st.st.trans st2.st).rr).mono (Sub.new (J2.sub.fre hr)))) q'
end
end LK

/-! Sources; comprehensions. -/
namespace LK
open PySem PySem.Spec PyProof.Rows L2

/-- an iterator walks these items, as long as what stands stands and A holds -/
structure Wk (K : PySem.W.Frag) (J : It) (R1 : Hp) (A : Hp → Prop) (xs : List D) : Prop where
  go : ∀ i R H d, Sub R1 R → Sub R H → A H → xs[i]? = some d → J.go i H ∧ ∀ x H', J.yld i H x H' → ∃ R', Grow R H R' H' ∧ Rp K R' x d
  stop : ∀ R H, Sub R1 R → Sub R H → A H → J.stop xs.length H
section
variable {K : PySem.W.Frag} {R1 : Hp}
theorem Wk.list {a : Addr} {vs : List V} {xs : List D} (A : Hp → Prop) (hA : ∀ R H, Sub R1 R → Sub R H → A H → SqL K H a vs) (inj : True) (r : Rps K R1 vs xs) (one : ∀ H, ∀ ys, SqL K H a ys → SqL K H a vs → ys = vs) : Wk K (Itl K a) R1 A xs where
  go := fun i R H d h1 h2 hH e => by
    obtain ⟨v, e1, e2⟩ := r.get e
    have q := hA R H h1 h2 hH
    refine ⟨⟨vs, v, q, e1⟩, fun x H' ⟨eH, hx⟩ => ?_⟩
    subst eH
    have e3 := hx vs q
    rw [e1] at e3
    cases e3
    exact ⟨R, Grow.refl h2, e2.mono h1⟩
  stop := fun R H h1 h2 hH => ⟨vs, hA R H h1 h2 hH, by rw [r.length]; exact Nat.le_refl _⟩
theorem Wk.tup {a : Addr} {vs : List V} {xs : List D} (h : SqT K R1 a vs) (r : Rps K R1 vs xs) : Wk K (Itt K a) R1 (fun _ => True) xs where
  go := fun i R H d h1 h2 _ e => by
    obtain ⟨v, e1, e2⟩ := r.get e
    have q := sub_sqT (h1.trans h2) h
    refine ⟨⟨vs, v, q, e1⟩, fun x H' ⟨eH, hx⟩ => ?_⟩
    subst eH
    have e3 := hx vs q
    rw [e1] at e3
    cases e3
    exact ⟨R, Grow.refl h2, e2.mono h1⟩
  stop := fun R H h1 h2 _ => ⟨vs, sub_sqT (h1.trans h2) h, by rw [r.length]; exact Nat.le_refl _⟩
theorem Wk.rng {lo : Int} {n : Nat} : Wk K (Itr lo n) R1 (fun _ => True) (rngD lo n) where
  go := fun i R H d h1 h2 _ e => by
    unfold rngD at e
    rw [List.getElem?_map] at e
    cases q : (List.range n)[i]? with
    | none => rw [q] at e; cases e
    | some k =>
      rw [q] at e
      obtain ⟨hl, hk⟩ := List.getElem?_eq_some_iff.mp q
      rw [List.getElem_range] at hk
      subst hk
      have e' : D.int (lo + (i : Nat)) = d := Option.some.inj e
      subst e'
      refine ⟨show i < n by simpa using hl, fun x H' ⟨eH, hx⟩ => ?_⟩
      subst eH
      subst hx
      exact ⟨R, Grow.refl h2, .int _⟩
  stop := fun R H h1 h2 _ => by
    show n ≤ (rngD lo n).length
    unfold rngD
    rw [List.length_map, List.length_range]
    exact Nat.le_refl n
theorem zipD_get : ∀ {xs ys : List D} {i : Nat} {d : D}, (zipD xs ys)[i]? = some d → ∃ x y, xs[i]? = some x ∧ ys[i]? = some y ∧ d = .tup [x, y]
  | [], _, _, _, h => by simp [zipD] at h
  | _ :: _, [], _, _, h => by simp [zipD] at h
  | x :: xs, y :: ys, 0, d, h => by
    simp [zipD] at h
    exact ⟨x, y, rfl, rfl, h.symm⟩
  | x :: xs, y :: ys, i + 1, d, h => by
    obtain ⟨a, b, h1, h2, h3⟩ := zipD_get (xs := xs) (ys := ys) (i := i) (d := d) (by simpa [zipD] using h)
    exact ⟨a, b, by simpa using h1, by simpa using h2, h3⟩
theorem zipD_len : ∀ (xs ys : List D), (zipD xs ys).length = min xs.length ys.length
  | [], ys => by simp [zipD]
  | _ :: _, [] => by simp [zipD]
  | x :: xs, y :: ys => by
    simp only [zipD, List.length_cons, zipD_len xs ys]
    omega
/-- two things read side by side -/
theorem Wk.zip {a c : Addr} {vs ws : List V} {xs ys : List D} {J : It} (P1 P2 : Hp → List V → Prop) (h1 : ∀ R H, Sub R1 R → Sub R H → P1 H vs ∧ P2 H ws) (r1 : Rps K R1 vs xs) (r2 : Rps K R1 ws ys)
    (hg : ∀ i H (x y : V), P1 H vs → P2 H ws → vs[i]? = some x → ws[i]? = some y → J.go i H)
    (hy : ∀ i H v H', J.yld i H v H' → ∃ T x y, v = .ref T ∧ H T = none ∧ H' = upd H T (.tup [x, y]) ∧ (∀ l, P1 H l → l[i]? = some x) ∧ ∀ l, P2 H l → l[i]? = some y)
    (hs : ∀ i H, P1 H vs → P2 H ws → (vs.length ≤ i ∨ ws.length ≤ i) → i ≤ vs.length → i ≤ ws.length → J.stop i H) : Wk K J R1 (fun _ => True) (zipD xs ys) where
  go := fun i R H d s1 s2 _ e => by
    obtain ⟨x, y, e1, e2, rfl⟩ := zipD_get e
    obtain ⟨v, v1, v2⟩ := r1.get e1
    obtain ⟨w, w1, w2⟩ := r2.get e2
    obtain ⟨p1, p2⟩ := h1 R H s1 s2
    refine ⟨hg i H v w p1 p2 v1 w1, fun u H' yl => ?_⟩
    obtain ⟨T, x', y', rfl, nT, rfl, f1, f2⟩ := hy i H u H' yl
    have ex := f1 vs p1
    rw [v1] at ex
    cases ex
    have ey := f2 ws p2
    rw [w1] at ey
    cases ey
    have g : Grow R H (upd R T (.tup [v, w])) (upd H T (.tup [v, w])) := Grow.new s2 nT
    exact ⟨_, g, .tup (SqT.of upd_same) (.cons ((v2.mono s1).mono g.rr) (.cons ((w2.mono s1).mono g.rr) .nil))⟩
  stop := fun R H s1 s2 _ => by
    obtain ⟨p1, p2⟩ := h1 R H s1 s2
    rw [zipD_len, ← r1.length, ← r2.length]
    exact hs _ H p1 p2 (by omega) (by omega) (by omega)
end

section
variable (K : PySem.W.Frag) (S : Sy) (en : En) (W : WX)
def GI (src : Src) : TI := fun σ H R => ∃ δ b R0 Q' E', ER K S.bc en δ b σ R0 H ∧ wSrc S.G src δ b Q' E' ∧
  (∀ xs b' J R1 H1, ER K S.bc en δ b' σ R1 H1 → Stp S.bc b b' R0 H R1 H1 → Wk K J R1 (fun _ => True) xs → Q' xs b' → R J H1) ∧ EOk K S en W δ σ E'
end
section
variable {S : Sy} {en : En} {N : List Str} {sc : Scope} {X : Cx} {W : WX} {lv : Nat} {x y z tg : Expr} {e a c : Ex}
theorem gI_rng (C : CK S N sc X W lv) {g : Expr} {pos : Pos} (hg : glName sc "range" g = true) (ho : ordX y = true) (he : PE X y (GE X.K S en W e)) : PI X tg (.Call g [y] [] pos) (GI X.K S en W (.rng e)) := by
  obtain ⟨p0, rfl, h1, h2, h3⟩ := gln C hg
  have hs := star_of ho [] X.env
  refine piImp (pi_range1 h1 (blt_none C (by decide +kernel)) (pa_cons he pa_nil hs) hs) fun σ H R ⟨δ, b, R0, Q', E', I, w, k, ke⟩ => ⟨δ, b, R0, _, E', I, w, fun d b1 v R1 H1 J st r q => ?_, ke⟩
  cases d <;> first | exact q.elim | skip
  cases r
  obtain ⟨⟨q1, q2⟩, q⟩ := q
  exact ⟨_, rfl, q1, q2, k _ b1 _ R1 H1 J st.st Wk.rng q⟩
theorem gI_rng2 (C : CK S N sc X W lv) {g : Expr} {pos : Pos} (hg : glName sc "range" g = true) (ho : ordX y = true) (ho2 : ordX z = true) (he : PE X y (GE X.K S en W a)) (he2 : PE X z (GE X.K S en W c)) : PI X tg (.Call g [y, z] [] pos) (GI X.K S en W (.rng2 a c)) := by
  obtain ⟨p0, rfl, h1, h2, h3⟩ := gln C hg
  have hs2 := star_of ho2 [] X.env
  have hs := star_of ho [z] X.env
  refine piImp (pi_range2 h1 (blt_none C (by decide +kernel)) (pa_cons he (pa_cons he2 pa_nil hs2) hs) (by rw [hs, hs2]; rfl) hs2) fun σ H R ⟨δ, b, R0, Q', E', I, w, k, ke⟩ => ⟨δ, b, R0, _, E', I, w, fun d b1 v R1 H1 J st r q => ⟨δ, b1, R1, _, E', J, q, fun d2 b2 v2 R2 H2 J2 st2 r2 q2 => ?_, ke⟩, ke⟩
  cases d <;> cases d2 <;> first | exact q2.elim | skip
  cases r
  cases r2
  obtain ⟨q1, q⟩ := q2
  exact ⟨_, _, rfl, q1, k _ b2 _ R2 H2 J2 (st.st.trans st2.st) Wk.rng q⟩
theorem inj_list {R H : Hp} {a : Addr} {vs : List V} (h : R a = some (.lst vs)) (s : Sub R H) : ∀ ys, Rd H a (.lst ys) → ys = vs := fun ys h' => by
  have e := s _ _ h
  rcases h' with q | ⟨o, q⟩
  · rw [e] at q
    cases q
    rfl
  · rw [e] at q
    cases q
/-- a list or a tuple, walked -/
theorem gI_seq (ho : ordX y = true) (he : PE X y (GE X.K S en W e)) : PI X tg y (GI X.K S en W (.seq e)) := by
  refine ⟨fun pins s σ H R I0 ⟨δ, b, R0, Q', E', I, w, k, ke⟩ => ?_⟩
  have run : wpAny (model X.prog X.w) X.A (eval y X.env) (EP X pins σ (fun v H1 => ∃ d b1 R1, ER X.K S.bc en δ b1 σ R1 H1 ∧ Stp S.bc b b1 R0 H R1 H1 ∧ Rp X.K R1 v d ∧ wseq d fun xs => Q' xs b1)) X.xe s :=
    he.run pins s σ H _ I0 ⟨δ, b, R0, _, E', I, w, fun d b1 v R1 H1 J st r q => ⟨d, b1, R1, J, st.st, r, q⟩, ke⟩
  refine thn run fun v s1 ⟨u, H1, I1, r1, d, b1, R1, J, st, r, q⟩ => ?_
  -- the value is there: as the rules for a list, a tuple
  have fl : ∀ a vs xs, u = .ref a → SqL X.K H1 a vs → (∀ R H, Sub R1 R → Sub R H → SqL X.K H a vs) → Rps X.K R1 vs xs → Q' xs b1 → wpAny (model X.prog X.w) X.A (pyIter v) (PIE X pins σ tg R) X.xe s1 := fun a vs xs eu hq hm rs hx => by
    subst eu
    cases r1
    obtain ⟨its, rv, p, hz⟩ := I1.list hq
    refine wpAny_pyIter_list p.isList ?_
    refine ⟨s1.heap.objs.size, [s1.heap.objs.size], _, _, H1, rfl, I1.kept (t' := s1.toks) fun b o e => Heap.get?_push_of_some _ e, turn_list a _, ⟨_, Heap.get?_push_size _ rfl, rfl, rfl⟩, fun b hb => ?_, ?_⟩
    · have e : b = s1.heap.objs.size := by simpa using hb
      subst e
      exact I1.fpOk (Nat.le_refl _) (I1.hok.fresh (Nat.le_refl _))
    · refine k xs b1 _ R1 H1 J st ⟨fun i R H d h1 h2 _ e => ?_, fun R H h1 h2 _ => ⟨vs, hm R H h1 h2, by rw [rs.length]; exact Nat.le_refl _⟩⟩ hx
      obtain ⟨v, e1, e2⟩ := rs.get e
      have q := hm R H h1 h2
      refine ⟨⟨vs, v, q, e1⟩, fun x H' ⟨eH, hx⟩ => ?_⟩
      subst eH
      have e3 := hx vs q
      rw [e1] at e3
      cases e3
      exact ⟨R, Grow.refl h2, e2.mono h1⟩
  cases r with
  | non => exact q.elim
  | bl _ => exact q.elim
  | int _ => exact q.elim
  | str _ => exact q.elim
  | brd _ => exact q.elim
  | @lst a vs xs h1 rs => exact fl a vs xs rfl (Sub.list J.sub h1) (fun R H s1 s2 => Sub.list (s1.trans s2) h1) rs q
  | @scr a ns h1 => exact fl a _ _ rfl (sub_sqL J.sub h1) (fun R H s1 s2 => sub_sqL (s1.trans s2) h1) (Rps.of_ints ns) q
  | @tup a vs xs h1 rs =>
    cases r1
    obtain ⟨its, rv, p, hz⟩ := I1.tuple (sub_sqT J.sub h1)
    refine wpAny_pyIter_tuple (show s1.heap.IsTuple a its.toArray from p) ?_
    refine ⟨s1.heap.objs.size, [s1.heap.objs.size], _, _, H1, rfl, I1.kept (t' := s1.toks) fun b o e => Heap.get?_push_of_some _ e, turn_tuple a _, ⟨_, Heap.get?_push_size _ rfl, rfl, rfl⟩, fun b hb => ?_, ?_⟩
    · have e : b = s1.heap.objs.size := by simpa using hb
      subst e
      exact I1.fpOk (Nat.le_refl _) (I1.hok.fresh (Nat.le_refl _))
    · exact k xs b1 _ R1 H1 J st (Wk.tup h1 rs) q
theorem gI_zip (C : CK S N sc X W lv) {g : Expr} {pos tpos : Pos} {elts : List Expr} {kk : Nat} (hg : glName sc "zip" g = true) (ho : ordX y = true) (ho2 : ordX z = true) (he : PE X y (GE X.K S en W a)) (he2 : PE X z (GE X.K S en W c)) :
    PI X (.Tuple elts kk tpos) (.Call g [y, z] [] pos) (GI X.K S en W (.zip a c)) := by
  obtain ⟨p0, rfl, h1, h2, h3⟩ := gln C hg
  have hs2 := star_of ho2 [] X.env
  have hs := star_of ho [z] X.env
  refine piImp (pi_zipM h1 (blt_none C (by decide +kernel)) (pa_cons he (pa_cons he2 pa_nil hs2) hs) hs (by rw [hs2]; rfl)) fun σ H R ⟨δ, b, R0, Q', E', I, w, k, ke⟩ => ⟨δ, b, R0, _, E', I, w, fun d b1 v R1 H1 J st r q => ⟨δ, b1, R1, _, E', J, q, fun d2 b2 v2 R2 H2 J2 st2 r2 q2 => ?_, ke⟩, ke⟩
  have stt := st.st.trans st2.st
  have rr := st2.st.rr
  cases d <;> cases d2 <;> first | exact q2.elim | skip
  · cases r with
    | @tup p vs _ p1 r1 =>
      cases r2 with
      | @tup p' ws _ p1' r1' =>
        refine ⟨_, _, vs, ws, rfl, .inr (.inl ⟨sub_sqT J2.sub (sub_sqT rr p1), sub_sqT J2.sub p1', ?_⟩)⟩
        refine k _ b2 _ R2 H2 J2 stt (Wk.zip (a := p) (c := p') (fun H l => SqT X.K H p l) (fun H l => SqT X.K H p' l) (fun R H s1 s2 => ⟨sub_sqT (s1.trans s2) (sub_sqT rr p1), sub_sqT (s1.trans s2) p1'⟩) (r1.mono rr) r1' (fun i H x y p1 p2 e1 e2 => ⟨vs, ws, x, y, p1, p2, e1, e2⟩) (fun i H v H' yl => yl) fun i H p1 p2 h _ _ => ⟨vs, ws, p1, p2, h⟩) q2
  · cases r with
    | @tup p vs _ p1 r1 =>
      cases r2 with
      | @lst p' ws _ p1' r1' =>
        refine ⟨_, _, vs, ws, rfl, .inr (.inr ⟨sub_sqT J2.sub (sub_sqT rr p1), Sub.list J2.sub p1', ?_⟩)⟩
        refine k _ b2 _ R2 H2 J2 stt (Wk.zip (a := p) (c := p') (fun H l => SqT X.K H p l) (fun H l => SqL X.K H p' l) (fun R H s1 s2 => ⟨sub_sqT (s1.trans s2) (sub_sqT rr p1), Sub.list (s1.trans s2) p1'⟩) (r1.mono rr) r1' (fun i H x y p1 p2 e1 e2 => ⟨vs, ws, x, y, p1, p2, e1, e2⟩) (fun i H v H' yl => yl) fun i H p1 p2 h h3 h4 => ⟨vs, ws, p1, p2, h, h3, h4⟩) q2
  · cases r with
    | @lst p vs _ p1 r1 =>
      cases r2 with
      | @lst p' ws _ p1' r1' =>
        refine ⟨_, _, vs, ws, rfl, .inl ⟨Sub.list J2.sub (rr _ _ p1), Sub.list J2.sub p1', ?_⟩⟩
        refine k _ b2 _ R2 H2 J2 stt (Wk.zip (a := p) (c := p') (fun H l => SqL X.K H p l) (fun H l => SqL X.K H p' l) (fun R H s1 s2 => ⟨Sub.list (s1.trans s2) (rr _ _ p1), Sub.list (s1.trans s2) p1'⟩) (r1.mono rr) r1' (fun i H x y p1 p2 e1 e2 => ⟨vs, ws, x, y, p1, p2, e1, e2⟩) (fun i H v H' yl => yl) fun i H p1 p2 h _ _ => ⟨vs, ws, p1, p2, h⟩) q2
end
end LK

/-! Targets; comprehensions. -/
namespace LK
open PySem PySem.Spec PyProof.Rows L2

/-- a target's reading -/
def gTg (K : PySem.W.Frag) : Tg → TG
  | .nm i => gName i
  | .pr i j => gTup K 2 (gCons (gName i) (gCons (gName j) gNil))
def setTg : Tg → V → V → L2.St → L2.St
  | .nm i, x, _, σ => σ.set i (some x)
  | .pr i j, x, y, σ => (σ.set i (some x)).set j (some y)
theorem binds_pr {i j : Nat} {δ : Env} {P : Env → Prop} : ∀ {d : D}, binds (.pr i j) d δ P → ∃ a c, d = .tup [a, c] ∧ P (st (st δ i (.vl a)) j (.vl c))
  | .tup [a, c], h => ⟨a, c, rfl, h⟩
  | .tup [], h => h.elim
  | .tup [_], h => h.elim
  | .tup (_ :: _ :: _ :: _), h => h.elim
  | .non, h => h.elim
  | .bl _, h => h.elim
  | .int _, h => h.elim
  | .str _, h => h.elim
  | .lst _, h => h.elim
  | .scr _, h => h.elim
  | .brd _, h => h.elim
theorem chkTg_pr {N : List Str} {sc : Scope} {i j : Nat} {x : Expr} (h : chkTg N sc (.pr i j) x = true) : ∃ a b k pos, x = .Tuple [a, b] k pos ∧ chkL N sc i a = true ∧ chkL N sc j b = true ∧ i ≠ j := by
  unfold chkTg at h
  dsimp only at h
  split at h
  · simp only [Bool.and_eq_true, decide_eq_true_eq] at h
    exact ⟨_, _, _, _, rfl, h.1.1, h.1.2, h.2⟩
  · cases h
/-- a target takes what is handed to it -/
theorem tg_take {K : PySem.W.Frag} {bc : Addr} {en : En} {δ : Env} {b : Ob} {σ σw : L2.St} {R H : Hp} (I : ER K bc en δ b σ R H) {tg : Tg} (hw : ∀ u v, setTg tg u v σw = setTg tg u v σ) {x : V} {d : D} {P : Env → Prop} (r : Rp K R x d) (w : binds tg d δ P) {Q : L2.St → Hp → Prop}
    (k : ∀ σ' δ' u v, σ' = setTg tg u v σw → ER K bc en δ' b σ' R H → P δ' → Q σ' H) : gTg K tg x σw H Q := by
  cases tg with
  | nm i =>
    refine k _ _ x x rfl ?_ w
    have e : σw.set i (some x) = σ.set i (some x) := hw x x
    rw [e]
    exact I.setV r
  | pr i j =>
    obtain ⟨d1, d2, rfl, w⟩ := binds_pr w
    cases r with
    | tup h1 rs =>
      cases rs with
      | cons r1 rs =>
        cases rs with
        | cons r2 rs =>
          cases rs
          refine ⟨_, _, rfl, sub_sqT I.sub h1, rfl, _, _, rfl, _, [], rfl, rfl, ?_⟩
          refine k _ _ _ _ rfl ?_ w
          rename_i v1 v2
          have e : (σw.set i (some v1)).set j (some v2) = (σ.set i (some v1)).set j (some v2) := hw v1 v2
          rw [e]
          exact (I.setV r1).setV r2
section
variable {S : Sy} {en : En} {N : List Str} {sc : Scope} {X : Cx} {W : WX} {lv : Nat} {x y z tg : Expr} {e a c : Ex}
theorem pg_L (C : CK S N sc X W lv) (hfn : ∀ s, isLoc sc s = true → X.fn s = true ∨ X.env.scope.names.lookup s = some .local) {i : Nat} (h : chkL N sc i x = true) : PG X x (gName i) := by
  unfold chkL at h
  split at h
  · rename_i s pos
    simp only [Bool.and_eq_true, decide_eq_true_eq] at h
    exact pg_name (by rw [C.n]; exact C.nd) (by rw [C.n]; exact h.1) (C.loc h.2) (hfn s h.2)
  · cases h
theorem pg_T (C : CK S N sc X W lv) (hfn : ∀ s, isLoc sc s = true → X.fn s = true ∨ X.env.scope.names.lookup s = some .local) {t : Tg} (h : chkTg N sc t x = true) : PG X x (gTg X.K t) := by
  cases t with
  | nm i => exact pg_L C hfn h
  | pr i j =>
    obtain ⟨a, b, k, pos, rfl, h1, h2, h3⟩ := chkTg_pr h
    have n1 : ∀ (y : Expr) (ys : List Expr) (k : Nat), chkL N sc k y = true → (assignEach (y :: ys) X.env).map (·.2) = assign y X.env :: (assignEach ys X.env).map (·.2) := fun y ys k hy => by
      unfold chkL at hy
      split at hy
      · rfl
      · cases hy
    have ln : (assignEach [a, b] X.env).length = 2 ∧ (assignEach [a, b] X.env).findIdx? (·.1) = none := by
      unfold chkL at h1 h2
      split at h1
      · split at h2
        · exact ⟨rfl, rfl⟩
        · cases h2
      · cases h1
    exact pg_tup C.calm (pgs_cons (pg_L C hfn h1) (pgs_cons (pg_L C hfn h2) pgs_nil (n1 _ _ _ h2)) (n1 _ _ _ h1)) ln.1 ln.2
/-- the context of a comprehension's block -/
theorem CK.blk (C : CK S N sc X W lv) (s : Shared) (H : Hp) (scope : Scope) (Cc : Addr) (cl : List (Str × Addr)) (fp : List Addr) : CK S N (relS scope sc) (X.blk s H scope (compEnvC scope cl Cc X.env) fp) (fun _ _ _ _ => False) lv where
  fs := C.fs
  calm := C.calm
  n := C.n
  nd := C.nd
  sc := by
    show relS scope X.env.scope = relS scope sc
    rw [C.sc]
  tk := takes0
  room := C.room
theorem lookup_relS_loc {scope sc : Scope} {s : Str} {k : NameKind} (hk : k ≠ .free) (h : scope.names.lookup s = some k) : (relS scope sc).names.lookup s = some k := lookup_relS_keep hk h
/-- a comprehension's target in its block -/
theorem pg_blk (C : CK S N sc X W lv) {scope : Scope} {t : Tg} (h : chkTg N (relS scope sc) t x = true) (ho : ownTg N scope t = true) (s : Shared) (H : Hp) (Cc : Addr) (cl : List (Str × Addr)) (fp : List Addr) :
    PG (X.blk s H scope (compEnvC scope cl Cc X.env) fp) x (gTg X.K t) := by
  have CB := C.blk s H scope Cc cl fp
  have one : ∀ (i : Nat) (y : Expr), (N.getD i (Str.ofString "?"), i) ∈ ownOf N t → chkL N (relS scope sc) i y = true → PG (X.blk s H scope (compEnvC scope cl Cc X.env) fp) y (gName i) := fun i y hm hy => by
    unfold chkL at hy
    split at hy
    · rename_i nm pos
      simp only [Bool.and_eq_true, decide_eq_true_eq] at hy
      have en : N.getD i (Str.ofString "?") = nm := by
        rw [List.getD_eq_getElem?_getD, hy.1]
        rfl
      unfold ownTg at ho
      have q := List.all_eq_true.mp ho _ hm
      simp only at q
      rw [en] at q
      refine pg_name (X := X.blk s H scope (compEnvC scope cl Cc X.env) fp) (by rw [CB.n]; exact CB.nd) (by rw [CB.n]; exact hy.1) (CB.loc hy.2) ?_
      cases hl : scope.names.lookup nm with
      | none => rw [hl] at q; cases q
      | some k =>
        rw [hl] at q
        cases k with
        | «local» =>
          refine .inr ?_
          show (relS scope X.env.scope).names.lookup nm = some .local
          exact lookup_relS_loc (by intro e; cases e) hl
        | cell =>
          refine .inl ?_
          show (scope.names.lookup nm == some .cell) = true
          rw [hl]
          rfl
        | free => cases q
        | globalExplicit => cases q
        | globalImplicit => cases q
    · cases hy
  cases t with
  | nm i => exact one i x (by unfold ownOf; exact List.mem_cons_self) h
  | pr i j =>
    obtain ⟨a, b, k, pos, rfl, h1, h2, h3⟩ := chkTg_pr h
    have n1 : ∀ (y : Expr) (ys : List Expr) (k : Nat) (env : PySem.Env), chkL N (relS scope sc) k y = true → (assignEach (y :: ys) env).map (·.2) = assign y env :: (assignEach ys env).map (·.2) := fun y ys k env hy => by
      unfold chkL at hy
      split at hy
      · rfl
      · cases hy
    have ln : ∀ env, (assignEach [a, b] env).length = 2 ∧ (assignEach [a, b] env).findIdx? (·.1) = none := fun env => by
      unfold chkL at h1 h2
      split at h1
      · split at h2
        · exact ⟨rfl, rfl⟩
        · cases h2
      · cases h1
    exact pg_tup (X := X.blk s H scope (compEnvC scope cl Cc X.env) fp) CB.calm (pgs_cons (one i a (by unfold ownOf; simp) h1) (pgs_cons (one j b (by unfold ownOf; simp) h2) pgs_nil (n1 _ _ _ _ h2)) (n1 _ _ _ _ h1)) (ln _).1 (ln _).2
/-- a comprehension's test -/
def GC (K : PySem.W.Frag) (S : Sy) (en : En) (c : Ox) : TT := fun σ H Q => ∃ δ b R Q', ER K S.bc en δ b σ R H ∧ wC S.G c δ b Q' ∧
  ∀ t b' R' H', ER K S.bc en δ b' σ R' H' → Stp S.bc b b' R H R' H' → Q' t b' → Q t H'
theorem gC_no : PTs X [] (GC X.K S en .no) := ⟨fun pins s σ H Q I0 ⟨δ, b, R, Q', I, w, k⟩ => pts_nil.run pins s σ H Q I0 (k true b R H I (Stp.refl I.sub) w)⟩
theorem gC_so (h : PT X y (GT X.K S en (fun _ _ _ _ => False) e)) : PTs X [y] (GC X.K S en (.so e)) := ⟨fun pins s σ H Q I0 ⟨δ, b, R, Q', I, w, k⟩ => (pts_one h).run pins s σ H Q I0
  ⟨δ, b, R, Q', fun _ => False, I, w, k, fun _ _ _ _ _ z => z⟩⟩
theorem wipe_set {tg : Tg} {u v : V} {σ : L2.St} (h : ∀ i j, tg = .pr i j → i ≠ j) : wipe (setTg tg u v (wipe σ ((ownOf N tg).map (·.2)))) ((ownOf N tg).map (·.2)) = wipe σ ((ownOf N tg).map (·.2)) ∧ setTg tg u v (wipe σ ((ownOf N tg).map (·.2))) = setTg tg u v σ := by
  cases tg with
  | nm i =>
    refine ⟨?_, ?_⟩
    · show ((σ.set i none).set i (some u)).set i none = σ.set i none
      rw [List.set_set, List.set_set]
    · show (σ.set i none).set i (some u) = σ.set i (some u)
      rw [List.set_set]
  | pr i j =>
    have ne := h i j rfl
    refine ⟨?_, ?_⟩
    · show (((((σ.set j none).set i none).set i (some u)).set j (some v)).set j none).set i none = (σ.set j none).set i none
      rw [List.set_set, List.set_set, List.set_comm none (some u) ne.symm, List.set_set, List.set_comm (some u) none ne, List.set_set]
    · show (((σ.set j none).set i none).set i (some u)).set j (some v) = (σ.set i (some u)).set j (some v)
      rw [List.set_set, List.set_comm none (some u) ne.symm, List.set_set]
theorem own_ne {t : Tg} (h : chkTg N sc t x = true) : ∀ i j, t = .pr i j → i ≠ j := fun i j e => by
  subst e
  obtain ⟨_, _, _, _, _, _, _, h3⟩ := chkTg_pr h
  exact h3
/-- THE LOOP of a comprehension -/
theorem comp_core {δ : Env} {σ : L2.St} {R0 H R1 H1 : Hp} {b0 b1 : Ob} {t : Tg} {J : It} {xs : List D} {A : Hp → Prop} {Q : VK} {Qf : List D → Ob → Prop} {step : D → Ob → (Option D → Ob → Prop) → Prop} {D0 : Addr} {cn : Ox} {elt : Ex}
    (hne : ∀ i j, t = .pr i j → i ≠ j) (I : ER X.K S.bc en δ b0 σ R0 H) (J1 : ER X.K S.bc en δ b1 σ R1 H1) (stp : Stp S.bc b0 b1 R0 H R1 H1) (wk : Wk X.K J R1 A xs) (hA : ∀ b R Hc, Stp S.bc b0 b R0 H R Hc → A Hc) (hlen : xs.length ≤ 1000000) (nD : H1 D0 = none)
    (w : wmap step xs [] b1 Qf)
    (hs : ∀ d b (Rr : Option D → Ob → Prop), step d b Rr → binds t d δ fun δ2 => wC S.G cn δ2 b fun tt b3 => if tt then wE S.G elt δ2 b3 (fun d b4 => Rr (some d) b4) (fun _ => False) else Rr none b3)
    (fin : ∀ b acc vacc R Hc, ER X.K S.bc en δ b σ R Hc → Stp S.bc b0 b R0 H R Hc → H D0 = none → R D0 = none → ¬ Bo S.bc b Hc D0 → Hc D0 = some (.lst vacc) → Rps X.K R vacc acc → Qf acc b → Q (.ref D0) Hc) :
    ∃ Wi : Nat → Nat → Hp → Prop, (∃ m, Wi 0 m (upd H1 D0 (.lst []))) ∧ ∀ i m Hc, Wi i m Hc →
      (J.stop i Hc ∧ Q (.ref D0) Hc) ∨ (J.go i Hc ∧ ∃ Nx : Hp → Prop, (∀ H', Nx H' → ∃ m', m' < m ∧ Wi (i + 1) m' H') ∧ ∀ x H', J.yld i Hc x H' → gTg X.K t x (wipe σ ((ownOf N t).map (·.2))) H' fun σ2 H2 =>
        wipe σ2 ((ownOf N t).map (·.2)) = wipe σ ((ownOf N t).map (·.2)) ∧ GC X.K S en cn σ2 H2 fun b H3 =>
          if b = true then GE X.K S en (fun _ _ _ _ => False) elt σ2 H3 fun y H4 => ∃ acc, H4 D0 = some (.lst acc) ∧ acc.length < sizeLine ∧ Nx (upd H4 D0 (.lst (acc ++ [y]))) else Nx H3) := by
  obtain ⟨s1, s2, n0, nr1, nb1⟩ := new_lst (o := .lst []) I J1 stp nD
  have f0 := I.freN n0
  refine ⟨fun i m Hc => m = xs.length - i ∧ i ≤ xs.length ∧ ∃ b R acc vacc, ER X.K S.bc en δ b σ R Hc ∧ Stp S.bc b0 b R0 H R Hc ∧ Sub R1 R ∧ Hc D0 = some (.lst vacc) ∧ Rps X.K R vacc acc ∧ acc.length ≤ i ∧ R D0 = none ∧ ¬ Bo S.bc b Hc D0 ∧ wmap step (xs.drop i) acc b Qf,
    ⟨xs.length, rfl, Nat.zero_le _, b1, R1, [], [], s1, s2, Sub.refl _, upd_same, .nil, Nat.zero_le _, nr1, nb1, w⟩, ?_⟩
  rintro i m Hc ⟨rfl, hi, b, R, acc, vacc, Ic, sc', sR, hD, ra, la, nr, nb, wm⟩
  by_cases hlt : i < xs.length
  · have e0 : xs[i]? = some xs[i] := List.getElem?_eq_getElem hlt
    obtain ⟨g1, g2⟩ := wk.go i R Hc xs[i] sR Ic.sub (hA b R Hc sc') e0
    rw [List.drop_eq_getElem_cons hlt] at wm
    have wm' : step xs[i] b fun o b' => wmap step (xs.drop (i + 1)) (match o with | some d => acc ++ [d] | none => acc) b' Qf := wm
    have wb := hs _ _ _ wm'
    refine .inr ⟨g1, fun H' => ∃ b R acc vacc, ER X.K S.bc en δ b σ R H' ∧ Stp S.bc b0 b R0 H R H' ∧ Sub R1 R ∧ H' D0 = some (.lst vacc) ∧ Rps X.K R vacc acc ∧ acc.length ≤ i + 1 ∧ R D0 = none ∧ ¬ Bo S.bc b H' D0 ∧ wmap step (xs.drop (i + 1)) acc b Qf, fun H' ⟨b, R, acc, vacc, h⟩ => ⟨xs.length - (i + 1), by omega, rfl, hlt, b, R, acc, vacc, h⟩, fun x H' hy => ?_⟩
    obtain ⟨R', g, rx⟩ := g2 x H' hy
    have I2 := Ic.grow g
    have st2 := Ic.stpG g
    have hD2 := g.hh _ _ hD
    refine tg_take I2 (fun u v => (wipe_set hne).2) rx wb fun σ2 δ2 u v eσ I3 wc => ⟨by rw [eσ]; exact (wipe_set hne).1, ?_⟩
    refine ⟨δ2, b, R', _, I3, wc, fun tt b3 R3 H3 I4 st4 q => ?_⟩
    have noBo : ∀ {bb : Ob} {RR HH : Hp}, Stp S.bc b bb R Hc RR HH → ¬ Bo S.bc bb HH D0 ∧ HH D0 = some (.lst vacc) ∧ RR D0 = none := fun {bb RR HH} sx =>
      ⟨(fun z => by
        rcases sx.bo D0 z with z | z
        · exact nb z
        · rw [hD] at z
          cases z), sx.out _ _ hD nb, (sx.old _ _ hD).trans nr⟩
    -- the block's frame forgotten
    have outer : ∀ {bb : Ob} {RR HH : Hp} {δx : Env} {σx : L2.St}, ER X.K S.bc en δx bb σx RR HH → Stp S.bc b bb R Hc RR HH → ER X.K S.bc en δ bb σ RR HH := fun {bb RR HH δx σx} Ix sx => Ic.go sx Ix.sub fun p B e => by
      obtain ⟨a, r, _⟩ := Ix.bd p B e
      exact ⟨a, r⟩
    cases tt with
    | false =>
      refine iteF ?_
      have q' : wmap step (xs.drop (i + 1)) acc b3 Qf := by simpa using q
      have sx := st2.trans st4
      obtain ⟨z1, z2, z3⟩ := noBo sx
      exact ⟨b3, R3, acc, vacc, outer I4 sx, sc'.trans sx, sR.trans sx.rr, z2, ra.mono sx.rr, by omega, z3, z1, q'⟩
    | true =>
      refine iteT ?_
      have q' : wE S.G elt δ2 b3 (fun d b4 => wmap step (xs.drop (i + 1)) (acc ++ [d]) b4 Qf) (fun _ => False) := by simpa using q
      refine ⟨δ2, b3, R3, _, _, I4, q', fun d b4 v R4 H4 I5 st5 r5 q5 => ?_, fun _ _ _ _ _ z => z⟩
      have sx := (st2.trans st4).trans st5.st
      obtain ⟨z1, z2, z3⟩ := noBo sx
      have J5 := outer I5 sx
      have lv : vacc.length ≤ i := by rw [ra.length]; exact la
      have ff : Fre S.bc en δ b4 σ R4 H4 D0 := ⟨f0.h0, z3, f0.no, z1⟩
      refine ⟨vacc, z2, big_lt (by omega), b4, R4, acc ++ [d], vacc ++ [v], J5.loose ff ⟨_, z2⟩ ⟨_, rfl⟩, (sc'.trans sx).loose n0, sR.trans sx.rr, upd_same, (ra.mono sx.rr).append (Rps.one r5), ?_, z3, fun z => ?_, q5⟩
      · rw [List.length_append, List.length_singleton]
        omega
      · obtain ⟨p', B, a', e, h, hq⟩ := z
        by_cases hz : p' = D0
        · subst hz
          rw [upd_same] at h
          cases h
        · rw [upd_ne hz] at h
          exact z1 ⟨p', B, a', e, h, hq⟩
  · have e : i = xs.length := by omega
    subst e
    rw [List.drop_length] at wm
    exact .inl ⟨wk.stop R Hc sR Ic.sub (hA b R Hc sc'), fin b acc vacc R Hc Ic sc' n0 nr nb hD ra wm⟩
theorem comp_read (C : CK S N sc X W lv) {t : Tg} {src : Src} {cn : Ox} {elt : Ex} {ifs : List Expr} {scope : Scope} {it : Expr} (ht : chkTg N (relS scope sc) t tg = true) (σ : L2.St) (H : Hp) (Q : VK) (h : GF X.K S en W (.comp t src cn elt) σ H Q) :
    tLc (GI X.K S en W src) (gTg X.K t) (GC X.K S en cn) (GE X.K S en (fun _ _ _ _ => False) elt) ((ownOf N t).map (·.2)) σ H Q := by
  obtain ⟨δ, b, R, Q', E', I, w, k, ke⟩ := h
  refine ⟨δ, b, R, _, E', I, w, fun xs b1 J R1 H1 J1 st wk q D0 nD => ?_, ke⟩
  exact comp_core (own_ne ht) I J1 st wk (fun _ _ _ _ => trivial) q.1 nD q.2 (fun d b Rr h => h) fun b acc vacc R Hc Ic sc' n0 nr nb hD ra qf => k acc b D0 vacc R Hc Ic sc' n0 nr nb hD ra qf
theorem compR_read (C : CK S N sc X W lv) {v i : Nat} {elt : Ex} {scope : Scope} {it : Expr} (ht : chkTg N (relS scope sc) (.nm i) tg = true) (hf : chkF S.M N sc .rows v it = true) (σ : L2.St) (H : Hp) (Q : VK) (h : GF X.K S en W (.compR v i elt) σ H Q) :
    tLc (iList X.K (tFld X.K (tVar v) (flName .rows))) (gTg X.K (.nm i)) (GC X.K S en .no) (GE X.K S en (fun _ _ _ _ => False) elt) ((ownOf N (.nm i)).map (·.2)) σ H Q := by
  obtain ⟨δ, b, R, Q', E', I, w, k, ke⟩ := h
  obtain ⟨p, B, hg, hb, w⟩ := theB_inv w
  obtain ⟨a, xs, h1, h2, _, h3⟩ := fld_read C hf I hg hb
  unfold tLc iList
  refine h3 _ ?_
  refine ⟨_, rfl, ⟨xs, SqL.of h1⟩, fun D0 nD => ?_⟩
  have wk : Wk X.K (Itl X.K (fadr a .rows)) R (fun H => H (fadr a .rows) = some (.lst xs)) B.rows := by
    refine ⟨fun i R' H' d s1 s2 hH e => ?_, fun R' H' s1 s2 hH => ⟨xs, SqL.of hH, by rw [h2.length]; exact Nat.le_refl _⟩⟩
    obtain ⟨v, e1, e2⟩ := Rps.get (i := i) (d := d) h2 e
    refine ⟨⟨xs, v, SqL.of hH, e1⟩, fun x H'' hx => ?_⟩
    obtain ⟨eH, hx⟩ := hx
    subst eH
    have e3 := hx xs (SqL.of hH)
    rw [e1] at e3
    cases e3
    exact ⟨R', Grow.refl s2, e2.mono s1⟩
  refine comp_core (own_ne ht) I.forget I.forget (Stp.refl I.sub) wk (fun b' R' Hc st => st.out _ _ h1 fun ⟨_, _, _, e, _⟩ => nomatch e) w.1 nD w.2 (fun d b Rr h => by simpa [binds, wC] using h) fun b' acc vacc R' Hc Ic sc' n0 nr nb hD ra qf => ?_
  have g : Grow R H R' Hc := ⟨sc'.rr, Ic.sub, fun q o e => sc'.out q o e (fun z => by
    obtain ⟨_, _, _, e', _⟩ := z
    cases e'), sc'.old⟩
  refine k acc b D0 vacc R' Hc (I.grow g) (I.stpG g) n0 nr (fun z => ?_) hD ra qf
  obtain ⟨p', B', a', e, hp, hq⟩ := z
  obtain ⟨a2, r2, _⟩ := I.bd p' B' e
  have e2 := bdFs_inj (Option.some.inj ((g.hh _ _ r2.ins).symm.trans hp))
  subst e2
  obtain ⟨o, ho⟩ := r2.tr D0 hq
  rw [n0] at ho
  cases ho
end
end LK

/-! All expressions. -/
namespace LK
open PySem PySem.Spec PyProof.Rows L2

section
variable {S : Sy} {en : En} {N : List Str} {sc : Scope} {X : Cx} {W : WX} {lv : Nat}
theorem mem_blt {s : Str} (h : bltNames.contains s = true) : s ∈ bltNames := by simpa using h
/-- a built-in of one argument -/
theorem call1 (C : CK S N sc X W lv) {o : O1} {s : Str} {f y : Expr} {pos : Pos} {u : Value} {e : Ex} (hb : bltNames.contains s = true) (hv : bootBuiltins s = some u) (hc : (∃ id, u = .builtin id) ∨ ∃ T, u = .type T) (r : CallR X u (c1 X.K o)) (ho : ordX y = true)
    (hg : glName sc s f = true) (h : PE X y (GE X.K S en W e)) : PE X (.Call f [y] [] pos) (GE X.K S en W (.op1 o e)) := by
  obtain ⟨p0, rfl, h1, h2, h3⟩ := gln C hg
  have hs := star_of ho [] X.env
  have hm := blt_none C (mem_blt hb)
  refine gE_op1 ?_
  rcases hc with ⟨id, rfl⟩ | ⟨T, rfl⟩
  · exact peImp (pe_callB r h1 hm hv (pa_cons h pa_nil hs) h3 h2 hs rfl) fun σ H Q q => q.mono fun v H q => ⟨v, rfl, q⟩
  · exact peImp (pe_callTy r h1 hm hv (pa_cons h pa_nil hs) h3 h2 hs rfl) fun σ H Q q => q.mono fun v H q => ⟨v, rfl, q⟩
theorem call2 (C : CK S N sc X W lv) {o : O2} {s : Str} {f y z : Expr} {pos : Pos} {id : String} {e c : Ex} (hb : bltNames.contains s = true) (hv : bootBuiltins s = some (.builtin id)) (r : CallR X (.builtin id) (c2 X.K o)) (ho : ordX y = true) (ho2 : ordX z = true)
    (hg : glName sc s f = true) (h : PE X y (GE X.K S en W e)) (h' : PE X z (GE X.K S en W c)) : PE X (.Call f [y, z] [] pos) (GE X.K S en W (.op2 o e c)) := by
  obtain ⟨p0, rfl, h1, h2, h3⟩ := gln C hg
  have hs2 := star_of ho2 [] X.env
  have hs := star_of ho [z] X.env
  have hm := blt_none C (mem_blt hb)
  exact gE_op2 (peImp (pe_callB r h1 hm hv (pa_cons h (pa_cons h' pa_nil hs2) hs) h3 h2 hs (by rw [hs2]; rfl)) fun σ H Q q => q.mono fun v H q => q.mono fun v2 H q => ⟨v, v2, rfl, q⟩)
theorem callIs (C : CK S N sc X W lv) {o : O1} {t : Str} {T : String} {f y z : Expr} {pos : Pos} {e : Ex} (hb : bltNames.contains t = true) (hv : bootBuiltins t = some (.type T)) (r : CallR X (.builtin "isinstance") (rIs X.K o T)) (ho : ordX y = true)
    (hg : glName sc "isinstance" f = true) (hz : glName sc t z = true) (h : PE X y (GE X.K S en W e)) : PE X (.Call f [y, z] [] pos) (GE X.K S en W (.op1 o e)) := by
  obtain ⟨p0, rfl, h1, h2, h3⟩ := gln C hg
  obtain ⟨p1, rfl, h4, h5, h6⟩ := gln C hz
  have hs2 : starEach [.Name t p1] X.env = (false, eval (.Name t p1) X.env) :: starEach [] X.env := rfl
  have hs := star_of ho [.Name t p1] X.env
  have hm := blt_none C (mem_blt hb)
  exact gE_op1 (peImp (pe_callB r h1 (blt_none C (by decide +kernel)) (by decide +kernel) (pa_cons h (pa_cons (pe_bltn (v := .ty T) h4 hm hv rfl h6 h5) pa_nil hs2) hs) h3 h2 hs (by rw [hs2]; rfl)) fun σ H Q q => q.mono fun v H q => ⟨v, rfl, q⟩)
theorem PI_cast {tg x : Expr} {t t' : TI} (h : PI X tg x t) (e : t = t') : PI X tg x t' := e ▸ h
theorem call1f (C : CK S N sc X W lv) {f y : Expr} {pos : Pos} {e : Ex} (ho : ordX y = true)
    (hg : glName sc "list" f = true) (h : PE X y (GE X.K S en W e)) : PE X (.Call f [y] [] pos) (GF X.K S en W (.op1 .lstO e)) := by
  obtain ⟨p0, rfl, h1, h2, h3⟩ := gln C hg
  have hs := star_of ho [] X.env
  have hm : X.mg "list" = none := blt_none C (mem_blt (by decide +kernel))
  exact gF_op1 (peImp (pe_callTy b_lstf h1 hm (by decide +kernel) (pa_cons h pa_nil hs) h3 h2 hs rfl) fun σ H Q q => q.mono fun v H q => ⟨v, rfl, q⟩)
end
/-- what is told of a text -/
structure EOK (S : Sy) (en : En) (N : List Str) (e : Ex) : Prop where
  ge : ∀ {sc : Scope} {X : Cx} {W : WX} {lv : Nat} {x : Expr}, CK S N sc X W lv → chkE S.M N sc e x = true → PE X x (GE X.K S en W e)
  gf : ∀ {sc : Scope} {X : Cx} {W : WX} {lv : Nat} {x : Expr}, CK S N sc X W lv → chkE S.M N sc e x = true → fresh S.G.fr e = true → PE X x (GF X.K S en W e)
  gt : ∀ {sc : Scope} {X : Cx} {W : WX} {lv : Nat} {x : Expr}, CK S N sc X W lv → chkE S.M N sc e x = true → PT X x (GT X.K S en W e) ∧ ∀ op vs p, x = .BoolOp op vs p → PW X x (GT X.K S en W e)
/-- an expression whose test is its value's truth -/
def valX : Expr → Bool
  | .BoolOp .. => false
  | .UnaryOp .Not _ _ => false
  | .Compare .. => false
  | .IfExp .. => false
  | _ => true
theorem truth_of {x : Expr} (h : valX x = true) (env : PySem.Env) (whole : Sem Value) : isTrue x env whole = (do let v ← whole; standAt x.pos; holding [v] (truthy v)) := by
  cases x <;> first | rfl | exact Bool.noConfusion h | skip
  rename_i op _ _
  cases op <;> first | rfl | exact Bool.noConfusion h
section
variable {S : Sy} {en : En} {N : List Str}
/-- most: the test by the value -/
theorem EOK.mk1 {e : Ex} (hf : fresh S.G.fr e = false) (h : ∀ {sc : Scope} {X : Cx} {W : WX} {lv : Nat} {x : Expr}, CK S N sc X W lv → chkE S.M N sc e x = true → PE X x (GE X.K S en W e))
    (hv : ∀ {sc : Scope} {x : Expr}, chkE S.M N sc e x = true → valX x = true) : EOK S en N e where
  ge := h
  gf := fun _ _ z => by rw [hf] at z; cases z
  gt := fun C hc => ⟨gT_val (h C hc) (truth_of (hv hc) _), fun op vs p e => by
    subst e
    have := hv hc
    cases this⟩
theorem EOK.mkF {e : Ex} (hq : quiet e = false) (h : ∀ {sc : Scope} {X : Cx} {W : WX} {lv : Nat} {x : Expr}, CK S N sc X W lv → chkE S.M N sc e x = true → PE X x (GF X.K S en W e))
    (hv : ∀ {sc : Scope} {x : Expr}, chkE S.M N sc e x = true → valX x = true) : EOK S en N e where
  ge := fun C hc => ge_of_gf hq (h C hc)
  gf := fun C hc _ => h C hc
  gt := fun C hc => ⟨gT_val (ge_of_gf hq (h C hc)) (truth_of (hv hc) _), fun op vs p e => by
    subst e
    have := hv hc
    cases this⟩
def Op1Inv (M : Nms) (N : List Str) (sc : Scope) (o : O1) (a : Ex) (x : Expr) : Prop :=
    (o = .neg ∧ ∃ y pos, x = .UnaryOp .USub y pos ∧ chkE M N sc a y = true) ∨ (o = .isN ∧ ∃ y k p pos, x = .Compare y [.Is] [.Constant .none k p] pos ∧ chkE M N sc a y = true) ∨
    (o = .notN ∧ ∃ y k p pos, x = .Compare y [.IsNot] [.Constant .none k p] pos ∧ chkE M N sc a y = true) ∨ (∃ s f y pos, blt1 o = some s ∧ x = .Call f [y] [] pos ∧ glName sc s f = true ∧ chkE M N sc a y = true) ∨
    ∃ t f y z pos, isiT o = some t ∧ x = .Call f [y, z] [] pos ∧ glName sc "isinstance" f = true ∧ glName sc t z = true ∧ chkE M N sc a y = true
theorem op1_call {M : Nms} {sc : Scope} {o : O1} {a : Ex} {x : Expr} {s : Str} (hs : blt1 o = some s) (h : (match x with
        | .Call f [y] [] _ => glName sc s f && chkE M N sc a y
        | _ => false) = true) : Op1Inv M N sc o a x := by
  split at h
  · simp only [Bool.and_eq_true] at h
    exact .inr (.inr (.inr (.inl ⟨_, _, _, _, hs, rfl, h.1, h.2⟩)))
  · cases h
theorem op1_is {M : Nms} {sc : Scope} {o : O1} {a : Ex} {x : Expr} {t : Str} (hs : isiT o = some t) (h : (match x with
          | .Call f [y, z] [] _ => glName sc "isinstance" f && glName sc t z && chkE M N sc a y
          | _ => false) = true) : Op1Inv M N sc o a x := by
  split at h
  · simp only [Bool.and_eq_true] at h
    exact .inr (.inr (.inr (.inr ⟨_, _, _, _, _, hs, rfl, h.1.1, h.1.2, h.2⟩)))
  · cases h
theorem chkE_op1 {M : Nms} {sc : Scope} {o : O1} {a : Ex} {x : Expr} (h : chkE M N sc (.op1 o a) x = true) : Op1Inv M N sc o a x := by
  have nn : ∀ z : Expr, isNone z = true → ∃ k p, z = .Constant .none k p := fun z hz => by
    unfold isNone at hz
    split at hz
    · exact ⟨_, _, rfl⟩
    · cases hz
  cases o with
  | neg =>
    unfold chkE at h
    dsimp only at h
    split at h
    · exact .inl ⟨rfl, _, _, rfl, h⟩
    · cases h
  | isN =>
    unfold chkE at h
    dsimp only at h
    split at h
    · simp only [Bool.and_eq_true] at h
      obtain ⟨k, p, rfl⟩ := nn _ h.2
      exact .inr (.inl ⟨rfl, _, _, _, _, rfl, h.1⟩)
    · cases h
  | notN =>
    unfold chkE at h
    dsimp only at h
    split at h
    · simp only [Bool.and_eq_true] at h
      obtain ⟨k, p, rfl⟩ := nn _ h.2
      exact .inr (.inr (.inl ⟨rfl, _, _, _, _, rfl, h.1⟩))
    · cases h
  | abs => unfold chkE at h; exact op1_call rfl h
  | len => unfold chkE at h; exact op1_call rfl h
  | tupO => unfold chkE at h; exact op1_call rfl h
  | lstO => unfold chkE at h; exact op1_call rfl h
  | intO => unfold chkE at h; exact op1_call rfl h
  | strO => unfold chkE at h; exact op1_call rfl h
  | sum => unfold chkE at h; exact op1_call rfl h
  | isInt => unfold chkE at h; exact op1_is rfl h
  | isBool => unfold chkE at h; exact op1_is rfl h
  | isTup => unfold chkE at h; exact op1_is rfl h
  | isLst => unfold chkE at h; exact op1_is rfl h
  | isStr => unfold chkE at h; exact op1_is rfl h
def Op2Inv (M : Nms) (N : List Str) (sc : Scope) (o : O2) (a b : Ex) (x : Expr) : Prop :=
  (∃ op y z pos, binT o = some op ∧ x = .BinOp y op z pos ∧ chkE M N sc a y = true ∧ chkE M N sc b z = true) ∨ (∃ op y z pos, cmpT o = some op ∧ x = .Compare y [op] [z] pos ∧ chkE M N sc a y = true ∧ chkE M N sc b z = true) ∨
  (∃ s f y z pos, blt2 o = some s ∧ x = .Call f [y, z] [] pos ∧ glName sc s f = true ∧ chkE M N sc a y = true ∧ chkE M N sc b z = true) ∨ (o = .ix ∧ ∃ y z pos, x = .Subscript y z pos ∧ chkE M N sc a y = true ∧ chkE M N sc b z = true)
theorem op2_bin {M : Nms} {sc : Scope} {o : O2} {a b : Ex} {x : Expr} {op : Operator} (hs : binT o = some op) (h : (match x with
      | .BinOp y op' z _ => decide (op' = op) && chkE M N sc a y && chkE M N sc b z
      | _ => false) = true) : Op2Inv M N sc o a b x := by
  split at h
  · simp only [Bool.and_eq_true, decide_eq_true_eq] at h
    obtain ⟨⟨e, h1⟩, h2⟩ := h
    subst e
    exact .inl ⟨_, _, _, _, hs, rfl, h1, h2⟩
  · cases h
theorem op2_cmp {M : Nms} {sc : Scope} {o : O2} {a b : Ex} {x : Expr} {op : CmpOp} (hs : cmpT o = some op) (h : (match x with
        | .Compare y [op'] [z] _ => decide (op' = op) && chkE M N sc a y && chkE M N sc b z
        | _ => false) = true) : Op2Inv M N sc o a b x := by
  split at h
  · simp only [Bool.and_eq_true, decide_eq_true_eq] at h
    obtain ⟨⟨e, h1⟩, h2⟩ := h
    subst e
    exact .inr (.inl ⟨_, _, _, _, hs, rfl, h1, h2⟩)
  · cases h
theorem op2_blt {M : Nms} {sc : Scope} {o : O2} {a b : Ex} {x : Expr} {s : Str} (hs : blt2 o = some s) (h : (match x with
          | .Call f [y, z] [] _ => glName sc s f && chkE M N sc a y && chkE M N sc b z
          | _ => false) = true) : Op2Inv M N sc o a b x := by
  split at h
  · simp only [Bool.and_eq_true] at h
    exact .inr (.inr (.inl ⟨_, _, _, _, _, hs, rfl, h.1.1, h.1.2, h.2⟩))
  · cases h
theorem chkE_op2 {M : Nms} {sc : Scope} {o : O2} {a b : Ex} {x : Expr} (h : chkE M N sc (.op2 o a b) x = true) : Op2Inv M N sc o a b x := by
  cases o with
  | add => unfold chkE at h; exact op2_bin rfl h
  | sub => unfold chkE at h; exact op2_bin rfl h
  | mul => unfold chkE at h; exact op2_bin rfl h
  | fdiv => unfold chkE at h; exact op2_bin rfl h
  | mod => unfold chkE at h; exact op2_bin rfl h
  | pow => unfold chkE at h; exact op2_bin rfl h
  | cat => unfold chkE at h; exact op2_bin rfl h
  | tcat => unfold chkE at h; exact op2_bin rfl h
  | scat => unfold chkE at h; exact op2_bin rfl h
  | lt => unfold chkE at h; exact op2_cmp rfl h
  | le => unfold chkE at h; exact op2_cmp rfl h
  | gt => unfold chkE at h; exact op2_cmp rfl h
  | ge => unfold chkE at h; exact op2_cmp rfl h
  | eq => unfold chkE at h; exact op2_cmp rfl h
  | ne => unfold chkE at h; exact op2_cmp rfl h
  | inD => unfold chkE at h; exact op2_cmp rfl h
  | ninD => unfold chkE at h; exact op2_cmp rfl h
  | ninS => unfold chkE at h; exact op2_cmp rfl h
  | max => unfold chkE at h; exact op2_blt rfl h
  | min => unfold chkE at h; exact op2_blt rfl h
  | ix =>
    unfold chkE at h
    dsimp only [binT, cmpT, blt2] at h
    split at h
    · simp only [Bool.and_eq_true] at h
      exact .inr (.inr (.inr ⟨rfl, _, _, _, rfl, h.1, h.2⟩))
    · cases h
end
end LK

/-! All expressions, the recursion. -/
namespace LK
open PySem PySem.Spec PyProof.Rows L2
section
variable {S : Sy} {en : En} {N : List Str} {sc : Scope} {X : Cx} {W : WX} {lv : Nat}
theorem gE_isN {y : Expr} {e : Ex} {k : Nat} {p pos : Pos} (h : PE X y (GE X.K S en W e)) : PE X (.Compare y [.Is] [.Constant .none k p] pos) (GE X.K S en W (.op1 .isN e)) :=
  gE_op1 (peImp (pe_cmpR op_isN h pe_non (by rfl)) fun σ H Q q => q.mono fun v H q => ⟨rfl, r1_isN q⟩)
theorem gE_notN {y : Expr} {e : Ex} {k : Nat} {p pos : Pos} (h : PE X y (GE X.K S en W e)) : PE X (.Compare y [.IsNot] [.Constant .none k p] pos) (GE X.K S en W (.op1 .notN e)) :=
  gE_op1 (peImp (pe_cmpR op_notN h pe_non (by rfl)) fun σ H Q q => q.mono fun v H q => ⟨rfl, r1_notN q⟩)
theorem gT_isN {y : Expr} {e : Ex} {k : Nat} {p pos : Pos} (h : PE X y (GE X.K S en W e)) : PT X (.Compare y [.Is] [.Constant .none k p] pos) (GT X.K S en W (.op1 .isN e)) :=
  ptImp (pt_cmpR op_isN h pe_non (by rfl)) fun σ H Q ⟨δ, b, R, Q', E', I, w, k, ke⟩ => ⟨δ, b, R, fun d b' => w1 .isN d fun d => wtest d fun t => Q' t b', E', I, w, fun d b1 v R1 H1 J st r q => by
    have e : decide (v = .non) = isNonD d := by cases r <;> rfl
    refine ⟨rfl, _, rfl, ?_⟩
    rw [e]
    exact k _ b1 R1 H1 J st.st (by cases d <;> exact q), ke⟩
theorem gT_notN {y : Expr} {e : Ex} {k : Nat} {p pos : Pos} (h : PE X y (GE X.K S en W e)) : PT X (.Compare y [.IsNot] [.Constant .none k p] pos) (GT X.K S en W (.op1 .notN e)) :=
  ptImp (pt_cmpR op_notN h pe_non (by rfl)) fun σ H Q ⟨δ, b, R, Q', E', I, w, k, ke⟩ => ⟨δ, b, R, fun d b' => w1 .notN d fun d => wtest d fun t => Q' t b', E', I, w, fun d b1 v R1 H1 J st r q => by
    have e : decide (v = .non) = isNonD d := by cases r <;> rfl
    refine ⟨rfl, _, rfl, ?_⟩
    rw [e]
    exact k _ b1 R1 H1 J st.st (by cases d <;> exact q), ke⟩
theorem EOK.isN {e : Ex} (h : EOK S en N e) : EOK S en N (.op1 .isN e) where
  ge := fun C hc => by
    rcases chkE_op1 hc with ⟨e, _⟩ | ⟨_, y, k, p, pos, rfl, h1⟩ | ⟨e, _⟩ | ⟨_, _, _, _, e, _⟩ | ⟨_, _, _, _, _, e, _⟩
    · cases e
    · exact gE_isN (h.ge C h1)
    · cases e
    · cases e
    · cases e
  gf := fun _ _ z => by cases z
  gt := fun C hc => by
    rcases chkE_op1 hc with ⟨e, _⟩ | ⟨_, y, k, p, pos, rfl, h1⟩ | ⟨e, _⟩ | ⟨_, _, _, _, e, _⟩ | ⟨_, _, _, _, _, e, _⟩
    · cases e
    · exact ⟨gT_isN (h.ge C h1), fun _ _ _ z => by cases z⟩
    · cases e
    · cases e
    · cases e
theorem EOK.notN {e : Ex} (h : EOK S en N e) : EOK S en N (.op1 .notN e) where
  ge := fun C hc => by
    rcases chkE_op1 hc with ⟨e, _⟩ | ⟨e, _⟩ | ⟨_, y, k, p, pos, rfl, h1⟩ | ⟨_, _, _, _, e, _⟩ | ⟨_, _, _, _, _, e, _⟩
    · cases e
    · cases e
    · exact gE_notN (h.ge C h1)
    · cases e
    · cases e
  gf := fun _ _ z => by cases z
  gt := fun C hc => by
    rcases chkE_op1 hc with ⟨e, _⟩ | ⟨e, _⟩ | ⟨_, y, k, p, pos, rfl, h1⟩ | ⟨_, _, _, _, e, _⟩ | ⟨_, _, _, _, _, e, _⟩
    · cases e
    · cases e
    · exact ⟨gT_notN (h.ge C h1), fun _ _ _ z => by cases z⟩
    · cases e
    · cases e
theorem EOK.neg {e : Ex} (h : EOK S en N e) : EOK S en N (.op1 .neg e) := .mk1 rfl (fun C hc => by
    rcases chkE_op1 hc with ⟨_, y, pos, rfl, h1⟩ | ⟨e, _⟩ | ⟨e, _⟩ | ⟨_, _, _, _, e, _⟩ | ⟨_, _, _, _, _, e, _⟩
    · exact gE_op1 (pe_un b_neg (h.ge C h1))
    · cases e
    · cases e
    · cases e
    · cases e) fun hc => by
    rcases chkE_op1 hc with ⟨_, y, pos, rfl, h1⟩ | ⟨e, _⟩ | ⟨e, _⟩ | ⟨_, _, _, _, e, _⟩ | ⟨_, _, _, _, _, e, _⟩
    · rfl
    · cases e
    · cases e
    · cases e
    · cases e
theorem isi_none {o : O1} {s : Str} (h : blt1 o = some s) : isiT o = none := by
  cases o <;> first | rfl | cases h
/-- a built-in's call, by its facts -/
theorem EOK.blt {e : Ex} {o : O1} {s : Str} {u : Value} (h : EOK S en N e) (hs : blt1 o = some s) (hf : fresh S.G.fr (.op1 o e) = false) (hb : bltNames.contains s = true) (hv : bootBuiltins s = some u) (hc : (∃ id, u = .builtin id) ∨ ∃ T, u = .type T) (r : ∀ {X : Cx}, X.calm = true → CallR X u (c1 X.K o)) : EOK S en N (.op1 o e) := .mk1 hf
    (fun C hc' => by
    rcases chkE_op1 hc' with ⟨e, _⟩ | ⟨e, _⟩ | ⟨e, _⟩ | ⟨s', f, y, pos, e, rfl, h1, h2⟩ | ⟨_, _, _, _, _, e, _⟩
    · subst e; cases hs
    · subst e; cases hs
    · subst e; cases hs
    · rw [hs] at e
      cases e
      exact call1 C hb hv hc (r C.calm) (chkE_ord h2) h1 (h.ge C h2)
    · rw [isi_none hs] at e; cases e) fun hc' => by
    rcases chkE_op1 hc' with ⟨e, _⟩ | ⟨e, _⟩ | ⟨e, _⟩ | ⟨s', f, y, pos, e, rfl, h1, h2⟩ | ⟨_, _, _, _, _, e, _⟩
    · subst e; cases hs
    · subst e; cases hs
    · subst e; cases hs
    · rfl
    · rw [isi_none hs] at e; cases e
theorem EOK.isi {e : Ex} {o : O1} {t : Str} {T : String} (h : EOK S en N e) (hs : isiT o = some t) (hn : blt1 o = none) (hf : fresh S.G.fr (.op1 o e) = false) (hb : bltNames.contains t = true) (hv : bootBuiltins t = some (.type T)) (r : ∀ {X : Cx}, CallR X (.builtin "isinstance") (rIs X.K o T)) : EOK S en N (.op1 o e) := .mk1 hf
    (fun C hc' => by
    rcases chkE_op1 hc' with ⟨e, _⟩ | ⟨e, _⟩ | ⟨e, _⟩ | ⟨s', f, y, pos, e, rfl, h1, h2⟩ | ⟨t', f, y, z, pos, e, rfl, h1, h2, h3⟩
    · subst e; cases hs
    · subst e; cases hs
    · subst e; cases hs
    · rw [hn] at e; cases e
    · rw [hs] at e
      cases e
      exact callIs C hb hv r (chkE_ord h3) h1 h2 (h.ge C h3)) fun hc' => by
    rcases chkE_op1 hc' with ⟨e, _⟩ | ⟨e, _⟩ | ⟨e, _⟩ | ⟨s', f, y, pos, e, rfl, h1, h2⟩ | ⟨t', f, y, z, pos, e, rfl, h1, h2, h3⟩
    · subst e; cases hs
    · subst e; cases hs
    · subst e; cases hs
    · rfl
    · rfl
theorem EOK.lstO {e : Ex} (h : EOK S en N e) : EOK S en N (.op1 .lstO e) := .mkF rfl
    (fun C hc' => by
    rcases chkE_op1 hc' with ⟨e, _⟩ | ⟨e, _⟩ | ⟨e, _⟩ | ⟨s', f, y, pos, e, rfl, h1, h2⟩ | ⟨t', f, y, z, pos, e, rfl, h1, h2, h3⟩
    · cases e
    · cases e
    · cases e
    · cases e
      exact call1f C (chkE_ord h2) h1 (h.ge C h2)
    · cases e) fun hc' => by
    rcases chkE_op1 hc' with ⟨e, _⟩ | ⟨e, _⟩ | ⟨e, _⟩ | ⟨s', f, y, pos, e, rfl, h1, h2⟩ | ⟨t', f, y, z, pos, e, rfl, h1, h2, h3⟩
    · cases e
    · cases e
    · cases e
    · rfl
    · cases e
theorem EOK.op1 {e : Ex} (h : EOK S en N e) : ∀ o, EOK S en N (.op1 o e)
  | .neg => h.neg
  | .isN => h.isN
  | .notN => h.notN
  | .lstO => h.lstO
  | .abs => h.blt (s := "abs") rfl rfl (by decide +kernel) (u := .builtin "abs") (by decide +kernel) (.inl ⟨_, rfl⟩) fun _ => b_abs
  | .len => h.blt (s := "len") rfl rfl (by decide +kernel) (u := .builtin "len") (by decide +kernel) (.inl ⟨_, rfl⟩) fun _ => b_len
  | .tupO => h.blt (s := "tuple") rfl rfl (by decide +kernel) (u := .type "tuple") (by decide +kernel) (.inr ⟨_, rfl⟩) fun _ => b_tup
  | .intO => h.blt (s := "int") rfl rfl (by decide +kernel) (u := .type "int") (by decide +kernel) (.inr ⟨_, rfl⟩) fun _ => b_int
  | .strO => h.blt (s := "str") rfl rfl (by decide +kernel) (u := .type "str") (by decide +kernel) (.inr ⟨_, rfl⟩) fun _ => b_str
  | .sum => h.blt (s := "sum") rfl rfl (by decide +kernel) (u := .builtin "sum") (by decide +kernel) (.inl ⟨_, rfl⟩) fun hc => b_sum hc
  | .isInt => h.isi (t := "int") rfl rfl rfl (by decide +kernel) (T := "int") (by decide +kernel) b_isInt
  | .isBool => h.isi (t := "bool") rfl rfl rfl (by decide +kernel) (T := "bool") (by decide +kernel) b_isBool
  | .isTup => h.isi (t := "tuple") rfl rfl rfl (by decide +kernel) (T := "tuple") (by decide +kernel) b_isTup
  | .isLst => h.isi (t := "list") rfl rfl rfl (by decide +kernel) (T := "list") (by decide +kernel) b_isLst
  | .isStr => h.isi (t := "str") rfl rfl rfl (by decide +kernel) (T := "str") (by decide +kernel) b_isStr
/-! ### two data -/
theorem EOK.bin {a c : Ex} {o : O2} {op : Operator} (h : EOK S en N a) (h' : EOK S en N c) (hs : binT o = some op) (hf : fresh S.G.fr (.op2 o a c) = false) (hn : cmpT o = none ∧ blt2 o = none ∧ o ≠ .ix) (r : ∀ {X : Cx}, OpR X (binaryOp op) (r2 X.K o)) : EOK S en N (.op2 o a c) := .mk1 hf
    (fun C hc' => by
    rcases chkE_op2 hc' with ⟨op', y, z, pos, e, rfl, h1, h2⟩ | ⟨_, _, _, _, e, _⟩ | ⟨_, _, _, _, _, e, _⟩ | ⟨e, _⟩
    · rw [hs] at e
      cases e
      exact gE_op2 (pe_op r (h.ge C h1) (h'.ge C h2))
    · rw [hn.1] at e; cases e
    · rw [hn.2.1] at e; cases e
    · exact absurd e hn.2.2) fun hc' => by
    rcases chkE_op2 hc' with ⟨op', y, z, pos, e, rfl, h1, h2⟩ | ⟨_, _, _, _, e, _⟩ | ⟨_, _, _, _, _, e, _⟩ | ⟨e, _⟩
    · rfl
    · rw [hn.1] at e; cases e
    · rw [hn.2.1] at e; cases e
    · exact absurd e hn.2.2
theorem EOK.cmp {a c : Ex} {o : O2} {op : CmpOp} (h : EOK S en N a) (h' : EOK S en N c) (hs : cmpT o = some op) (hf : fresh S.G.fr (.op2 o a c) = false) (hn : binT o = none ∧ blt2 o = none ∧ o ≠ .ix) (r : ∀ {X : Cx}, X.A.units + 65 < cLine → OpR X (compareOp op) (r2 X.K o)) : EOK S en N (.op2 o a c) where
  ge := fun C hc' => by
    rcases chkE_op2 hc' with ⟨_, _, _, _, e, _⟩ | ⟨op', y, z, pos, e, rfl, h1, h2⟩ | ⟨_, _, _, _, _, e, _⟩ | ⟨e, _⟩
    · rw [hn.1] at e; cases e
    · rw [hs] at e
      cases e
      exact gE_op2 (pe_cmpR (r (by have := C.room.un; omega)) (h.ge C h1) (h'.ge C h2) (marks_of (chkE_ord h2) _))
    · rw [hn.2.1] at e; cases e
    · exact absurd e hn.2.2
  gf := fun _ _ z => by rw [hf] at z; cases z
  gt := fun C hc' => by
    rcases chkE_op2 hc' with ⟨_, _, _, _, e, _⟩ | ⟨op', y, z, pos, e, rfl, h1, h2⟩ | ⟨_, _, _, _, _, e, _⟩ | ⟨e, _⟩
    · rw [hn.1] at e; cases e
    · rw [hs] at e
      cases e
      exact ⟨gT_cmp (r (by have := C.room.un; omega)) (h.ge C h1) (h'.ge C h2) (marks_of (chkE_ord h2) _), fun _ _ _ z => by cases z⟩
    · rw [hn.2.1] at e; cases e
    · exact absurd e hn.2.2
theorem EOK.op2 {a c : Ex} (h : EOK S en N a) (h' : EOK S en N c) : ∀ o, EOK S en N (.op2 o a c)
  | .add => h.bin h' rfl rfl ⟨rfl, rfl, fun z => nomatch z⟩ b_add
  | .sub => h.bin h' rfl rfl ⟨rfl, rfl, fun z => nomatch z⟩ b_sub
  | .mul => h.bin h' rfl rfl ⟨rfl, rfl, fun z => nomatch z⟩ b_mul
  | .fdiv => h.bin h' rfl rfl ⟨rfl, rfl, fun z => nomatch z⟩ b_fdiv
  | .mod => h.bin h' rfl rfl ⟨rfl, rfl, fun z => nomatch z⟩ b_mod
  | .pow => h.bin h' rfl rfl ⟨rfl, rfl, fun z => nomatch z⟩ b_pow
  | .tcat => h.bin h' rfl rfl ⟨rfl, rfl, fun z => nomatch z⟩ b_tcat
  | .scat => h.bin h' rfl rfl ⟨rfl, rfl, fun z => nomatch z⟩ b_scat
  | .lt => h.cmp h' rfl rfl ⟨rfl, rfl, fun z => nomatch z⟩ fun _ => b_lt
  | .le => h.cmp h' rfl rfl ⟨rfl, rfl, fun z => nomatch z⟩ fun _ => b_le
  | .gt => h.cmp h' rfl rfl ⟨rfl, rfl, fun z => nomatch z⟩ fun _ => b_gt
  | .ge => h.cmp h' rfl rfl ⟨rfl, rfl, fun z => nomatch z⟩ fun _ => b_ge
  | .eq => h.cmp h' rfl rfl ⟨rfl, rfl, fun z => nomatch z⟩ fun hu => b_eq (by omega)
  | .ne => h.cmp h' rfl rfl ⟨rfl, rfl, fun z => nomatch z⟩ fun hu => b_ne (by omega)
  | .inD => h.cmp h' rfl rfl ⟨rfl, rfl, fun z => nomatch z⟩ fun hu => b_inD hu
  | .ninD => h.cmp h' rfl rfl ⟨rfl, rfl, fun z => nomatch z⟩ fun hu => b_ninD hu
  | .ninS => h.cmp h' rfl rfl ⟨rfl, rfl, fun z => nomatch z⟩ fun _ => b_ninS
  | .cat => .mkF (by simp [quiet]) (fun C hc' => by
    rcases chkE_op2 hc' with ⟨op', y, z, pos, e, rfl, h1, h2⟩ | ⟨_, _, _, _, e, _⟩ | ⟨_, _, _, _, _, e, _⟩ | ⟨e, _⟩
    · cases e
      exact gF_op2 (pe_op b_catf (h.ge C h1) (h'.ge C h2))
    · cases e
    · cases e
    · cases e) fun hc' => by
    rcases chkE_op2 hc' with ⟨op', y, z, pos, e, rfl, h1, h2⟩ | ⟨_, _, _, _, e, _⟩ | ⟨_, _, _, _, _, e, _⟩ | ⟨e, _⟩
    · rfl
    · cases e
    · cases e
    · cases e
  | .ix => .mk1 rfl (fun C hc' => by
    rcases chkE_op2 hc' with ⟨_, _, _, _, e, _⟩ | ⟨_, _, _, _, e, _⟩ | ⟨_, _, _, _, _, e, _⟩ | ⟨_, y, z, pos, rfl, h1, h2⟩
    · cases e
    · cases e
    · cases e
    · exact gE_op2 (pe_ix b_ix (h.ge C h1) (h'.ge C h2) (plainIx_of (chkE_ord h2)))) fun hc' => by
    rcases chkE_op2 hc' with ⟨_, _, _, _, e, _⟩ | ⟨_, _, _, _, e, _⟩ | ⟨_, _, _, _, _, e, _⟩ | ⟨_, y, z, pos, rfl, h1, h2⟩
    · cases e
    · cases e
    · cases e
    · rfl
  | .max => .mk1 rfl (fun C hc' => by
    rcases chkE_op2 hc' with ⟨_, _, _, _, e, _⟩ | ⟨_, _, _, _, e, _⟩ | ⟨s, f, y, z, pos, e, rfl, hg, h1, h2⟩ | ⟨e, _⟩
    · cases e
    · cases e
    · cases e
      exact call2 C (by decide +kernel) (by decide +kernel) (b_max C.calm) (chkE_ord h1) (chkE_ord h2) hg (h.ge C h1) (h'.ge C h2)
    · cases e) fun hc' => by
    rcases chkE_op2 hc' with ⟨_, _, _, _, e, _⟩ | ⟨_, _, _, _, e, _⟩ | ⟨s, f, y, z, pos, e, rfl, hg, h1, h2⟩ | ⟨e, _⟩
    · cases e
    · cases e
    · rfl
    · cases e
  | .min => .mk1 rfl (fun C hc' => by
    rcases chkE_op2 hc' with ⟨_, _, _, _, e, _⟩ | ⟨_, _, _, _, e, _⟩ | ⟨s, f, y, z, pos, e, rfl, hg, h1, h2⟩ | ⟨e, _⟩
    · cases e
    · cases e
    · cases e
      exact call2 C (by decide +kernel) (by decide +kernel) (b_min C.calm) (chkE_ord h1) (chkE_ord h2) hg (h.ge C h1) (h'.ge C h2)
    · cases e) fun hc' => by
    rcases chkE_op2 hc' with ⟨_, _, _, _, e, _⟩ | ⟨_, _, _, _, e, _⟩ | ⟨s, f, y, z, pos, e, rfl, hg, h1, h2⟩ | ⟨e, _⟩
    · cases e
    · cases e
    · rfl
    · cases e
end
end LK

/-! An own list lent to an expression; slices that are new; a text's methods; a text's signs. -/
namespace LK
open PySem PySem.Spec PyProof.Rows L2
/-- a heap without one address -/
def hole (R : Hp) (p : Addr) : Hp := fun a => if a = p then none else R a
theorem hole_ne {R : Hp} {p a : Addr} (h : a ≠ p) : hole R p a = R a := by unfold hole; rw [if_neg h]
theorem hole_eq {R : Hp} {p : Addr} : hole R p p = none := by unfold hole; rw [if_pos rfl]
section
variable {K : PySem.W.Frag} {R : Hp} {p : Addr} {xs : List V}
mutual
theorem Rp.holed (hp : R p = some (.lst xs)) (hh : ∃ q r, xs = .ref q :: r) : ∀ {v : V} (d : D), flatD d = true → Rp K R v d → Rp K (hole R p) v d
  | _, .non, _, .non => .non
  | _, .bl _, _, .bl _ => .bl _
  | _, .int _, _, .int _ => .int _
  | _, .str _, _, .str _ => .str _
  | _, .tup ds, h, .tup (a := a) (xs := ys) q r => by
    refine .tup ?_ (Rps.holed hp hh ds h r)
    rcases q with (q | ⟨o, q⟩) | q
    · refine .inl (.inl ?_)
      rw [hole_ne (fun e => by rw [e, hp] at q; cases q)]
      exact q
    · refine .inl (.inr ⟨o, ?_⟩)
      rw [hole_ne (fun e => by rw [e, hp] at q; cases q)]
      exact q
    · exact .inr q
  | _, .lst ds, h, .lst (a := a) (xs := ys) q r => by
    have h' : headInt ds = true ∧ flatDs ds = true := by simpa [flatD] using h
    refine .lst ?_ (Rps.holed hp hh ds h'.2 r)
    rw [hole_ne ?_]
    · exact q
    · intro e
      rw [e, hp] at q
      cases q
      obtain ⟨q0, r0, e2⟩ := hh
      rw [e2] at r
      cases r with
      | cons r1 r2 =>
        rename_i d ds
        cases r1 <;> simp [headInt] at h'
  | _, .scr _, h, _ => by simp [flatD] at h
  | _, .brd _, h, _ => by simp [flatD] at h
theorem Rps.holed (hp : R p = some (.lst xs)) (hh : ∃ q r, xs = .ref q :: r) : ∀ {vs : List V} (ds : List D), flatDs ds = true → Rps K R vs ds → Rps K (hole R p) vs ds
  | _, [], _, .nil => .nil
  | _, d :: ds, h, .cons r rs => by
    have h' : flatD d = true ∧ flatDs ds = true := by simpa [flatDs] using h
    exact .cons (Rp.holed hp hh d h'.1 r) (Rps.holed hp hh ds h'.2 rs)
end
theorem Rp.lend {v : V} {d : D} {ds : List D} (hp : R p = some (.lst xs)) (hx : Rps K R xs ds) (h : lendOk ds d = true) (r : Rp K R v d) : Rp K (hole R p) v d := by
  unfold lendOk at h
  rw [Bool.or_eq_true, Bool.and_eq_true] at h
  rcases h with h | ⟨h1, h2⟩
  · cases r <;> first | (simp [atomD] at h; done) | constructor
  · refine r.holed hp ?_ d h1
    cases hx with
    | nil => simp [headTup] at h2
    | cons r1 r2 =>
      rename_i d0 ds0
      cases d0 <;> first | (simp [headTup] at h2; done) | skip
      cases r1
      exact ⟨_, _, rfl⟩
end
section
variable {S : Sy} {en : En} {N : List Str} {sc : Scope} {X : Cx} {W : WX} {lv : Nat} {x y z : Expr} {e a c : Ex}
/-- back from where an own list was lent -/
theorem unlend {K : PySem.W.Frag} {bc : Addr} {δ : Env} {b : Ob} {σ : L2.St} {R H R' H' : Hp} {p : Addr} {xs : List V} (I : ER K bc en δ b σ R H) (hp : H p = some (.lst xs)) (nr : R p = none) (J : Sub R' H') (st : Stp bc b none (upd R p (.lst xs)) H R' H') :
    ER K bc en δ none σ (hole R' p) H' ∧ Stp bc b none R H (hole R' p) H' := by
  have s : Stp bc b none R H (hole R' p) H' := by
    refine ⟨fun q o e => ?_, fun q o e => ?_, st.dom, st.out, st.bo⟩
    · have hq : q ≠ p := fun z => by rw [z, nr] at e; cases e
      rw [hole_ne hq]
      exact st.rr q o (by rw [upd_ne hq]; exact e)
    · by_cases hq : q = p
      · rw [hq, hole_eq, nr]
      · rw [hole_ne hq, st.old q o e, upd_ne hq]
  exact ⟨I.go s (fun q o e => by
    by_cases hq : q = p
    · rw [hq, hole_eq] at e; cases e
    · rw [hole_ne hq] at e
      exact J q o e) (fun _ _ e => nomatch e), s⟩
theorem gE_lend {i : Nat} (h : PE X x (GE X.K S en W e)) : PE X x (GE X.K S en W (.lend i e)) := peImp h fun σ H Q ⟨δ, b, R, Q', E', I, w, k, ke⟩ => by
  have w' : (match LK.gt δ i with
    | .ow ds => wE S.G e (LK.st δ i (.vl (.lst ds))) b (fun d b1 => lendOk ds d = true ∧ b1 = none ∧ Q' d b1) (fun _ => False)
    | _ => False) := w
  cases hg : LK.gt δ i with
  | no => rw [hg] at w'; exact w'.elim
  | vl _ => rw [hg] at w'; exact w'.elim
  | ow ds =>
    rw [hg] at w'
    obtain ⟨p, xs, e1, nr, hp, rs, J⟩ := I.freeze hg
    refine ⟨_, b, _, _, fun _ => False, J, w', fun d b1 v R1 H1 J1 st r ⟨lo, eb, q⟩ => ?_, fun _ _ _ _ _ z => z.elim⟩
    subst eb
    obtain ⟨I2, s2⟩ := unlend I hp nr J1.sub st.st
    exact k d none v _ H1 I2 (StQ.off s2 rfl) (r.lend (st.st.rr _ _ upd_same) (rs.mono st.st.rr) lo) q
theorem gT_lend {i : Nat} (h : PT X x (GT X.K S en W e)) : PT X x (GT X.K S en W (.lend i e)) := ptImp h fun σ H Q ⟨δ, b, R, Q', E', I, w, k, ke⟩ => by
  have w' : (match LK.gt δ i with
    | .ow ds => wE S.G e (LK.st δ i (.vl (.lst ds))) b (fun d b1 => lendOk ds d = true ∧ b1 = none ∧ wtest d fun t => Q' t b1) (fun _ => False)
    | _ => False) := w
  cases hg : LK.gt δ i with
  | no => rw [hg] at w'; exact w'.elim
  | vl _ => rw [hg] at w'; exact w'.elim
  | ow ds =>
    rw [hg] at w'
    obtain ⟨p, xs, e1, nr, hp, rs, J⟩ := I.freeze hg
    have ee : (fun (d : D) (b1 : Ob) => lendOk ds d = true ∧ b1 = none ∧ wtest d fun t => Q' t b1) = fun d b1 => wtest d fun t => b1 = none ∧ Q' t b1 := by
      funext d b1
      apply propext
      cases d <;> simp [wtest, lendOk, atomD]
    have w2 : wE S.G e (LK.st δ i (.vl (.lst ds))) b (fun d b1 => wtest d fun t => b1 = none ∧ Q' t b1) (fun _ => False) := by
      rw [← ee]
      exact w'
    refine ⟨_, b, _, fun t b1 => b1 = none ∧ Q' t b1, fun _ => False, J, w2, fun t b1 R1 H1 J1 st ⟨eb, q⟩ => ?_, fun _ _ _ _ _ z => z.elim⟩
    subst eb
    obtain ⟨I2, s2⟩ := unlend I hp nr J1.sub st
    exact k t none _ H1 I2 s2 q
/-- a slice of a list, a new list -/
theorem gF_slF {lo hi : Ox} {l h : Option Expr} {p2 pos : Pos} (ha : PE X y (GE X.K S en W a)) (hl : PO X l (GO X.K S en W lo)) (hh : PO X h (GO X.K S en W hi)) : PE X (.Subscript y (.Slice l h none p2) pos) (GF X.K S en W (.slF a lo hi)) :=
  peImp (pe_slice sl_list ha hl hh) fun σ H Q ⟨δ, b, R, Q', E', I, w, k, ke⟩ => ⟨δ, b, R, fun x b1 => wO S.G lo δ b1 (fun l b2 => wO S.G hi δ b2 (fun h b3 => wslF x l h fun z => Q' z b3) E') E', E', I, w, fun d b1 v R1 H1 J st r q =>
    ⟨δ, b1, R1, fun l b2 => wO S.G hi δ b2 (fun h b3 => wslF d l h fun z => Q' z b3) E', E', J, q, fun l b2 R2 H2 J2 st2 q2 =>
      ⟨δ, b2, R2, fun h b3 => wslF d l h fun z => Q' z b3, E', J2, q2, fun u b3 R3 H3 J3 st3 q3 => by
        cases d <;> first | exact False.elim q3 | skip
        cases r with
        | @lst p xs ds h1 rs =>
          have h3 := (st3.st.rr _ _ (st2.st.rr _ _ h1))
          refine ⟨_, xs, rfl, SqL.of (J3.sub _ _ h3), fun r hr => ?_⟩
          obtain ⟨J4, st4, n0, nr, nb⟩ := new_lst (o := .lst (cutV xs l u)) I J3 ((st.st.trans st2.st).trans st3.st) hr
          exact k _ b3 r _ R3 _ J4 st4 n0 nr nb upd_same (((rs.cut l u).mono st2.st.rr).mono st3.st.rr) q3, ke⟩, ke⟩, ke⟩
/-! ### a text's methods -/
theorem mt_base {y : Expr} (h : mtBase y = true) (s : Str) (env : PySem.Env) (whole : Sem Value) : attributeBase y s env whole = whole := by
  cases y <;> first | rfl | exact Bool.noConfusion h
/-- what a method's rule wants, on data -/
def rMt (K : PySem.W.Frag) (m : Mt) : V → List V → Hp → VK → Prop := fun x xs H Q => ∃ R dx y dy Q', Sub R H ∧ xs = [y] ∧ Rp K R x dx ∧ Rp K R y dy ∧ wmt m dx dy Q' ∧ ∀ z v R' H', Grow R H R' H' → Rp K R' v z → Q' z → Q v H'
theorem Rps.strs {K : PySem.W.Frag} {R : Hp} : ∀ {ys : List Str} {vs : List V}, Rps K R vs (ys.map .str) → vs = ys.map V.str
  | [], _, .nil => rfl
  | y :: ys, _, .cons (.str _) r => by rw [List.map_cons, Rps.strs r]
theorem Rps.of_strs {K : PySem.W.Frag} {R : Hp} : ∀ ys : List Str, Rps K R (ys.map V.str) (ys.map .str)
  | [] => .nil
  | y :: ys => .cons (.str y) (Rps.of_strs ys)
theorem mtImp {X : Cx} {id : String} {r r' : V → List V → Hp → VK → Prop} (h : MtR X id r) (i : ∀ x xs H Q, r' x xs H Q → r x xs H Q) : MtR X id r' := fun pins s σ H x xs v us Q I rx rs q => h pins s σ H x xs v us Q I rx rs (i x xs H Q q)
theorem m_startswith : MtR X "str.startswith" (rMt X.K .startswith) := mtImp mt_startswith fun x xs H Q ⟨R, dx, y, dy, Q', hs, e, hx, hy, hq, k⟩ => by
  subst e
  cases dx <;> cases dy <;> first | exact False.elim hq | skip
  cases hx
  cases hy
  exact ⟨_, _, rfl, rfl, k _ _ R H (Grow.refl hs) (.bl _) hq⟩
theorem m_find : MtR X "str.find" (rMt X.K .find) := mtImp mt_find fun x xs H Q ⟨R, dx, y, dy, Q', hs, e, hx, hy, hq, k⟩ => by
  subst e
  cases dx <;> cases dy <;> first | exact False.elim hq | skip
  cases hx
  cases hy
  exact ⟨_, _, rfl, rfl, k _ _ R H (Grow.refl hs) (.int _) hq⟩
theorem m_partition : MtR X "str.partition" (rMt X.K .partition) := mtImp mt_partition fun x xs H Q ⟨R, dx, y, dy, Q', hs, e, hx, hy, hq, k⟩ => by
  subst e
  cases dx <;> cases dy <;> first | exact False.elim hq | skip
  cases hx
  cases hy
  obtain ⟨h1, h2, hq⟩ := hq
  exact ⟨_, _, rfl, rfl, h1, Nat.le_trans h2 (by decide), fun p n => k _ _ _ _ (Grow.new (o := .tup _) hs n) (.tup (SqT.of upd_same) (.cons (.str _) (.cons (.str _) (.cons (.str _) .nil)))) hq⟩
theorem m_join : MtR X "str.join" (rMt X.K .join) := mtImp mt_join fun x xs H Q ⟨R, dx, y, dy, Q', hs, e, hx, hy, hq, k⟩ => by
  subst e
  cases dx <;> cases dy <;> first | exact False.elim hq | skip
  cases hx
  obtain ⟨ys, rfl, h2, hq⟩ := hq
  cases hy with
  | @lst p vs ds h1 rs =>
    have e := Rps.strs rs
    subst e
    exact ⟨_, p, ys, rfl, rfl, .inl (SqL.of (hs _ _ h1)), h2, k _ _ R H (Grow.refl hs) (.str _) hq⟩
/-- what split's rule wants: a new list -/
def rMtF (K : PySem.W.Frag) : V → List V → Hp → VK → Prop := fun x xs H Q => ∃ R dx y dy Q', Sub R H ∧ xs = [y] ∧ Rp K R x dx ∧ Rp K R y dy ∧ wmt .split dx dy Q' ∧ ∀ (ys : List Str) p, H p = none → Q' (.lst (ys.map .str)) → Q (.ref p) (upd H p (.lst (ys.map V.str)))
theorem m_split : MtR X "str.split" (rMtF X.K) := mtImp mt_split fun x xs H Q ⟨R, dx, y, dy, Q', hs, e, hx, hy, hq, k⟩ => by
  subst e
  cases dx <;> cases dy <;> first | exact False.elim hq | skip
  cases hx
  cases hy
  obtain ⟨h1, h2, hq⟩ := hq
  exact ⟨_, _, rfl, rfl, h1, Nat.le_trans h2 (by decide), fun p n => k _ p n hq⟩
theorem wmt_str {m : Mt} {x y : D} {Q : D → Prop} (h : wmt m x y Q) : ∃ s, x = .str s := by
  cases m <;> cases x <;> first | exact ⟨_, rfl⟩ | exact False.elim h
theorem gE_mth {m : Mt} {ap cp : Pos} {id : String} (hr : MtR X id (rMt X.K m)) (slot : Slot "str" (mtName m) id) (hty : typeOf (.builtin id) = pure (.type "method_descriptor")) (hb : mtBase y = true) (hl : (ap.endLine == cp.line) = true) (hz : ordX z = true)
    (ha : PE X y (GE X.K S en W a)) (hc : PE X z (GE X.K S en W c)) : PE X (.Call (.Attribute y (mtName m) ap) [z] [] cp) (GE X.K S en W (.mth m a c)) := by
  have hs := star_of hz [] X.env
  refine peImp (pe_bm PySem.F.plainAttrs_str slot hty hr ha (pa_cons hc pa_nil hs) (mt_base hb _ _ _) (by rw [hs]; rfl) hl hs rfl) fun σ H Q ⟨δ, b, R, Q', E', I, w, k, ke⟩ => ?_
  refine ⟨δ, b, R, _, E', I, w, fun d b1 v R1 H1 J st r ⟨hs, q⟩ => ?_, ke⟩
  have hv : ∃ s, v = .str s := by
    cases r <;> first | exact ⟨_, rfl⟩ | exact Bool.noConfusion hs
  obtain ⟨s0, rfl⟩ := hv
  refine ⟨rfl, δ, b1, R1, _, E', J, q, fun d2 b2 v2 R2 H2 J2 st2 r2 q2 => ?_, ke⟩
  exact ⟨R2, d, v2, d2, _, J2.sub, rfl, r.mono st2.st.rr, r2, q2, fun z' v' R' H' g r' q' => by
    obtain ⟨J3, st3⟩ := stp_growS J2 (st.st.trans st2.st) g
    exact k z' b2 v' R' H' J3 (StQ.off st3 rfl) r' q'⟩
theorem gF_split {ap cp : Pos} (hb : mtBase y = true) (hl : (ap.endLine == cp.line) = true) (hz : ordX z = true)
    (ha : PE X y (GE X.K S en W a)) (hc : PE X z (GE X.K S en W c)) : PE X (.Call (.Attribute y "split" ap) [z] [] cp) (GF X.K S en W (.mth .split a c)) := by
  have hs := star_of hz [] X.env
  refine peImp (pe_bm PySem.F.plainAttrs_str PySem.F.slot_str_split PySem.F.type_str_split m_split ha (pa_cons hc pa_nil hs) (mt_base hb _ _ _) (by rw [hs]; rfl) hl hs rfl) fun σ H Q ⟨δ, b, R, Q', E', I, w, k, ke⟩ => ?_
  refine ⟨δ, b, R, _, E', I, w, fun d b1 v R1 H1 J st r ⟨hs, q⟩ => ?_, ke⟩
  have hv : ∃ s, v = .str s := by
    cases r <;> first | exact ⟨_, rfl⟩ | exact Bool.noConfusion hs
  obtain ⟨s0, rfl⟩ := hv
  refine ⟨rfl, δ, b1, R1, _, E', J, q, fun d2 b2 v2 R2 H2 J2 st2 r2 q2 => ?_, ke⟩
  refine ⟨R2, d, v2, d2, _, J2.sub, rfl, r.mono st2.st.rr, r2, q2, fun ys p n q' => ?_⟩
  obtain ⟨J4, st4, n0, nr, nb⟩ := new_lst (o := .lst (ys.map V.str)) I J2 (st.st.trans st2.st) n
  exact k _ b2 p _ R2 _ J4 st4 n0 nr nb upd_same (Rps.of_strs ys) q'
/-- a text's signs, walked -/
theorem Wk.chs {K : PySem.W.Frag} {R1 : Hp} (s : Str) : Wk K (Its s) R1 (fun _ => True) (s.cps.toList.map fun c => .str ⟨#[c]⟩) where
  go := fun i R H d h1 h2 _ e => by
    rw [List.getElem?_map] at e
    cases hc : s.cps.toList[i]? with
    | none => rw [hc] at e; cases e
    | some c =>
      rw [hc] at e
      cases e
      have hi : i < s.cps.size := by
        obtain ⟨h, _⟩ := List.getElem?_eq_some_iff.mp hc
        simpa using h
      have e2 : s.cps[i]? = some c := by
        rw [← hc]
        simp
      refine ⟨hi, fun x H' ⟨eH, c', e1, ex⟩ => ?_⟩
      subst eH
      rw [e2] at e1
      cases e1
      subst ex
      exact ⟨R, Grow.refl h2, .str _⟩
  stop := fun R H _ _ _ => by
    show s.cps.size ≤ _
    simp
theorem gI_chs {tg : Expr} (he : PE X y (GE X.K S en W e)) : PI X tg y (GI X.K S en W (.chs e)) :=
  piImp (pi_str he) fun σ H R ⟨δ, b, R0, Q', E', I, w, k, ke⟩ => ⟨δ, b, R0, _, E', I, w, fun d b1 v R1 H1 J st r q => by
    cases d <;> first | exact False.elim q | skip
    cases r
    exact ⟨_, rfl, k _ b1 _ R1 H1 J st.st (Wk.chs _) q⟩, ke⟩
end
end LK

/-! All expressions, the recursion. -/
namespace LK
open PySem PySem.Spec PyProof.Rows L2
structure EsOK (S : Sy) (en : En) (N : List Str) (es : Exs) : Prop where
  ge : ∀ {sc : Scope} {X : Cx} {W : WX} {lv : Nat} {xs : List Expr}, CK S N sc X W lv → chkEs S.M N sc es xs = true → PA X xs (GEs X.K S en W es)
structure OOK (S : Sy) (en : En) (N : List Str) (o : Ox) : Prop where
  ge : ∀ {sc : Scope} {X : Cx} {W : WX} {lv : Nat} {x : Option Expr}, CK S N sc X W lv → chkO S.M N sc o x = true → PO X x (GO X.K S en W o)
  gc : ∀ {sc : Scope} {X : Cx} {lv : Nat} {xs : List Expr}, CK S N sc X (fun _ _ _ _ => False) lv → chkC S.M N sc o xs = true → PTs X xs (GC X.K S en o)
structure SrcOK (S : Sy) (en : En) (N : List Str) (s : Src) : Prop where
  ge : ∀ {sc : Scope} {X : Cx} {W : WX} {lv : Nat} {x tg : Expr} {t : Tg}, CK S N sc X W lv → chkSrc S.M N sc s x = true → zipOk t s = true → (∀ i j, t = .pr i j → ∃ elts kk pos, tg = .Tuple elts kk pos) → PI X tg x (GI X.K S en W s) ∧ ordX x = true
section
variable {S : Sy} {en : En} {N : List Str}
theorem EOK.and {a c : Ex} (h : EOK S en N a) (h' : EOK S en N c) : EOK S en N (.and a c) := by
  have inv : ∀ {sc : Scope} {x : Expr}, chkE S.M N sc (.and a c) x = true → ∃ y z r p, x = .BoolOp .And (y :: z :: r) p ∧ chkE S.M N sc a y = true ∧ chkE S.M N sc c (.BoolOp .And (z :: r) p) = true := fun {sc x} hc => by
    unfold chkE at hc
    split at hc
    · simp only [Bool.and_eq_true] at hc
      exact ⟨_, _, _, _, rfl, hc.1, hc.2⟩
    · cases hc
  refine ⟨fun C hc => ?_, fun _ _ z => (by cases z), fun C hc => ?_⟩
  · obtain ⟨y, z, r, p, rfl, h1, h2⟩ := inv hc
    exact gE_and (p2 := p) (h.ge C h1) (h'.ge C h2)
  · obtain ⟨y, z, r, p, rfl, h1, h2⟩ := inv hc
    have q : PW _ _ _ := gT_and (h.gt C h1).1 ((h'.gt C h2).2 _ _ _ rfl)
    exact ⟨q.pt, fun op vs p' e => q⟩
theorem EOK.or {a c : Ex} (h : EOK S en N a) (h' : EOK S en N c) : EOK S en N (.or a c) := by
  have inv : ∀ {sc : Scope} {x : Expr}, chkE S.M N sc (.or a c) x = true → ∃ y z r p, x = .BoolOp .Or (y :: z :: r) p ∧ chkE S.M N sc a y = true ∧ chkE S.M N sc c (.BoolOp .Or (z :: r) p) = true := fun {sc x} hc => by
    unfold chkE at hc
    split at hc
    · simp only [Bool.and_eq_true] at hc
      exact ⟨_, _, _, _, rfl, hc.1, hc.2⟩
    · cases hc
  refine ⟨fun C hc => ?_, fun _ _ z => (by cases z), fun C hc => ?_⟩
  · obtain ⟨y, z, r, p, rfl, h1, h2⟩ := inv hc
    exact gE_or (p2 := p) (h.ge C h1) (h'.ge C h2)
  · obtain ⟨y, z, r, p, rfl, h1, h2⟩ := inv hc
    have q : PW _ _ _ := gT_or (h.gt C h1).1 ((h'.gt C h2).2 _ _ _ rfl)
    exact ⟨q.pt, fun op vs p' e => q⟩
theorem EOK.one {a : Ex} (h : EOK S en N a) : EOK S en N (.one a) := by
  have inv : ∀ {sc : Scope} {x : Expr}, chkE S.M N sc (.one a) x = true → ∃ op y p, x = .BoolOp op [y] p ∧ chkE S.M N sc a y = true := fun {sc x} hc => by
    unfold chkE at hc
    split at hc
    · exact ⟨_, _, _, rfl, hc⟩
    · cases hc
  refine ⟨fun C hc => ?_, fun _ _ z => (by cases z), fun C hc => ?_⟩
  · obtain ⟨op, y, p, rfl, h1⟩ := inv hc
    exact gE_one (h.ge C h1)
  · obtain ⟨op, y, p, rfl, h1⟩ := inv hc
    cases op with
    | And =>
      have q : PW _ _ _ := gT_one1 (pos := p) (h.gt C h1).1
      exact ⟨q.pt, fun op vs p' e => q⟩
    | Or =>
      have q : PW _ _ _ := gT_one2 (pos := p) (h.gt C h1).1
      exact ⟨q.pt, fun op vs p' e => q⟩
theorem EOK.not {a : Ex} (h : EOK S en N a) : EOK S en N (.not a) := by
  have inv : ∀ {sc : Scope} {x : Expr}, chkE S.M N sc (.not a) x = true → ∃ y p, x = .UnaryOp .Not y p ∧ chkE S.M N sc a y = true := fun {sc x} hc => by
    unfold chkE at hc
    split at hc
    · exact ⟨_, _, rfl, hc⟩
    · cases hc
  refine ⟨fun C hc => ?_, fun _ _ z => (by cases z), fun C hc => ?_⟩
  · obtain ⟨y, p, rfl, h1⟩ := inv hc
    exact gE_not (h.ge C h1)
  · obtain ⟨y, p, rfl, h1⟩ := inv hc
    exact ⟨gT_not (h.gt C h1).1, fun _ _ _ z => (by cases z)⟩
theorem EOK.var (i : Nat) : EOK S en N (.var i) := .mk1 rfl (fun C hc => gE_var C (by simpa [chkE] using hc)) fun {sc x} hc => by
  have h : chkV N sc i x = true := by simpa [chkE] using hc
  unfold chkV at h
  split at h
  · rfl
  · cases h
theorem EOK.cst (d : D) : EOK S en N (.cst d) := .mk1 rfl (fun C hc => gE_cst (by simpa [chkE] using hc)) fun {sc x} hc => by
  have h : chkK d x = true := by simpa [chkE] using hc
  unfold chkK at h
  split at h
  · rfl
  · cases h
theorem gl_val {sc : Scope} {s : Str} {x : Expr} (h : glName sc s x = true) : valX x = true := by
  unfold glName at h
  split at h
  · rfl
  · cases h
theorem EOK.glb (g : Nat) : EOK S en N (.glb g) := .mk1 rfl (fun {sc X W lv x} C hc => by
  have h : S.M.hg g = true ∧ glName sc (S.M.gl g) x = true := by simpa [chkE] using hc
  exact gE_glb C h.1 h.2) fun {sc x} hc => by
  have h : S.M.hg g = true ∧ glName sc (S.M.gl g) x = true := by simpa [chkE] using hc
  exact gl_val h.2
theorem EOK.tup {es : Exs} (h : EsOK S en N es) : EOK S en N (.tup es) := by
  have inv : ∀ {sc : Scope} {x : Expr}, chkE S.M N sc (.tup es) x = true → ∃ ys k p, x = .Tuple ys k p ∧ ys.length ≤ 1000 ∧ chkEs S.M N sc es ys = true := fun {sc x} hc => by
    unfold chkE at hc
    split at hc
    · simp only [Bool.and_eq_true, decide_eq_true_eq] at hc
      exact ⟨_, _, _, rfl, hc.1, hc.2⟩
    · cases hc
  refine .mk1 rfl (fun C hc => ?_) fun hc => ?_
  · obtain ⟨ys, k, p, rfl, h1, h2⟩ := inv hc
    exact gE_tup (h.ge C h2) (by rw [(chkEs_ord h2).2]; exact h1)
  · obtain ⟨ys, k, p, rfl, h1, h2⟩ := inv hc
    rfl
theorem EOK.lst {es : Exs} (h : EsOK S en N es) : EOK S en N (.lst es) := by
  have inv : ∀ {sc : Scope} {x : Expr}, chkE S.M N sc (.lst es) x = true → ∃ ys p, x = .List ys p ∧ ys.length ≤ 1000 ∧ chkEs S.M N sc es ys = true := fun {sc x} hc => by
    unfold chkE at hc
    split at hc
    · simp only [Bool.and_eq_true, decide_eq_true_eq] at hc
      exact ⟨_, _, rfl, hc.1, hc.2⟩
    · cases hc
  refine .mkF rfl (fun C hc => ?_) fun hc => ?_
  · obtain ⟨ys, p, rfl, h1, h2⟩ := inv hc
    exact gF_lst (h.ge C h2) (by rw [(chkEs_ord h2).2]; exact h1)
  · obtain ⟨ys, p, rfl, h1, h2⟩ := inv hc
    rfl
theorem EOK.sl {a : Ex} {lo hi : Ox} (h : EOK S en N a) (h1 : OOK S en N lo) (h2 : OOK S en N hi) : EOK S en N (.sl a lo hi) := by
  have inv : ∀ {sc : Scope} {x : Expr}, chkE S.M N sc (.sl a lo hi) x = true → ∃ y l h p2 p, x = .Subscript y (.Slice l h none p2) p ∧ chkE S.M N sc a y = true ∧ chkO S.M N sc lo l = true ∧ chkO S.M N sc hi h = true := fun {sc x} hc => by
    unfold chkE at hc
    split at hc
    · simp only [Bool.and_eq_true] at hc
      exact ⟨_, _, _, _, _, rfl, hc.1.1, hc.1.2, hc.2⟩
    · cases hc
  refine .mk1 rfl (fun C hc => ?_) fun hc => ?_
  · obtain ⟨y, l, hh, p2, p, rfl, q1, q2, q3⟩ := inv hc
    exact gE_sl (h.ge C q1) (h1.ge C q2) (h2.ge C q3)
  · obtain ⟨y, l, hh, p2, p, rfl, q1, q2, q3⟩ := inv hc
    rfl
theorem EOK.slF {a : Ex} {lo hi : Ox} (h : EOK S en N a) (h1 : OOK S en N lo) (h2 : OOK S en N hi) : EOK S en N (.slF a lo hi) := by
  have inv : ∀ {sc : Scope} {x : Expr}, chkE S.M N sc (.slF a lo hi) x = true → ∃ y l h p2 p, x = .Subscript y (.Slice l h none p2) p ∧ chkE S.M N sc a y = true ∧ chkO S.M N sc lo l = true ∧ chkO S.M N sc hi h = true := fun {sc x} hc => by
    unfold chkE at hc
    split at hc
    · simp only [Bool.and_eq_true] at hc
      exact ⟨_, _, _, _, _, rfl, hc.1.1, hc.1.2, hc.2⟩
    · cases hc
  refine .mkF rfl (fun C hc => ?_) fun hc => ?_
  · obtain ⟨y, l, hh, p2, p, rfl, q1, q2, q3⟩ := inv hc
    exact gF_slF (h.ge C q1) (h1.ge C q2) (h2.ge C q3)
  · obtain ⟨y, l, hh, p2, p, rfl, q1, q2, q3⟩ := inv hc
    rfl
theorem EOK.lend {i : Nat} {e : Ex} (h : EOK S en N e) : EOK S en N (.lend i e) := by
  have inv : ∀ {sc : Scope} {x : Expr}, chkE S.M N sc (.lend i e) x = true → chkE S.M N sc e x = true ∧ ∀ op vs p, x ≠ .BoolOp op vs p := fun {sc x} hc => by
    unfold chkE at hc
    split at hc
    · exact ⟨hc, fun _ _ _ z => nomatch z⟩
    · exact ⟨hc, fun _ _ _ z => nomatch z⟩
    · cases hc
  exact ⟨fun C hc => gE_lend (h.ge C (inv hc).1), fun _ _ z => Bool.noConfusion z, fun C hc => ⟨gT_lend (h.gt C (inv hc).1).1, fun op vs p e => absurd e ((inv hc).2 op vs p)⟩⟩
theorem EOK.mth {m : Mt} {a c : Ex} (h : EOK S en N a) (h' : EOK S en N c) : EOK S en N (.mth m a c) := by
  have inv : ∀ {sc : Scope} {x : Expr}, chkE S.M N sc (.mth m a c) x = true → ∃ y ap z cp, x = .Call (.Attribute y (mtName m) ap) [z] [] cp ∧ (ap.endLine == cp.line) = true ∧ mtBase y = true ∧ chkE S.M N sc a y = true ∧ chkE S.M N sc c z = true := fun {sc x} hc => by
    unfold chkE at hc
    split at hc
    · simp only [Bool.and_eq_true] at hc
      obtain ⟨⟨⟨⟨q0, q1⟩, q2⟩, q3⟩, q4⟩ := hc
      have e := beq_iff_eq.mp q0
      subst e
      exact ⟨_, _, _, _, rfl, q1, q2, q3, q4⟩
    · cases hc
  have hv : ∀ {sc : Scope} {x : Expr}, chkE S.M N sc (.mth m a c) x = true → valX x = true := fun hc => by
    obtain ⟨y, ap, z, cp, rfl, _⟩ := inv hc
    rfl
  cases m with
  | split =>
    refine .mkF rfl (fun C hc => ?_) hv
    obtain ⟨y, ap, z, cp, rfl, q1, q2, q3, q4⟩ := inv hc
    exact gF_split q2 q1 (chkE_ord q4) (h.ge C q3) (h'.ge C q4)
  | startswith =>
    refine .mk1 rfl (fun C hc => ?_) hv
    obtain ⟨y, ap, z, cp, rfl, q1, q2, q3, q4⟩ := inv hc
    exact gE_mth m_startswith PySem.F.slot_str_startswith PySem.F.type_str_startswith q2 q1 (chkE_ord q4) (h.ge C q3) (h'.ge C q4)
  | partition =>
    refine .mk1 rfl (fun C hc => ?_) hv
    obtain ⟨y, ap, z, cp, rfl, q1, q2, q3, q4⟩ := inv hc
    exact gE_mth m_partition PySem.F.slot_str_partition PySem.F.type_str_partition q2 q1 (chkE_ord q4) (h.ge C q3) (h'.ge C q4)
  | find =>
    refine .mk1 rfl (fun C hc => ?_) hv
    obtain ⟨y, ap, z, cp, rfl, q1, q2, q3, q4⟩ := inv hc
    exact gE_mth m_find PySem.F.slot_str_find PySem.F.type_str_find q2 q1 (chkE_ord q4) (h.ge C q3) (h'.ge C q4)
  | join =>
    refine .mk1 rfl (fun C hc => ?_) hv
    obtain ⟨y, ap, z, cp, rfl, q1, q2, q3, q4⟩ := inv hc
    exact gE_mth m_join PySem.F.slot_str_join PySem.F.type_str_join q2 q1 (chkE_ord q4) (h.ge C q3) (h'.ge C q4)
theorem EOK.call {f : Nat} {es : Exs} (h : EsOK S en N es) : EOK S en N (.call f es) := by
  have inv : ∀ {sc : Scope} {x : Expr}, chkE S.M N sc (.call f es) x = true → ∃ g y ys p, x = .Call g (y :: ys) [] p ∧ S.M.hf f = true ∧ glName sc (S.M.fn f) g = true ∧ chkEs S.M N sc es (y :: ys) = true := fun {sc x} hc => by
    unfold chkE at hc
    split at hc
    · simp only [Bool.and_eq_true] at hc
      exact ⟨_, _, _, _, rfl, hc.1.1, hc.1.2, hc.2⟩
    · cases hc
  have hv : ∀ {sc : Scope} {x : Expr}, chkE S.M N sc (.call f es) x = true → valX x = true := fun hc => by
    obtain ⟨g, y, ys, p, rfl, q1, q2, q3⟩ := inv hc
    rfl
  by_cases hfr : S.G.fr f = true
  · refine .mkF rfl (fun {sc X W lv x} C hc => ?_) hv
    obtain ⟨g, y, ys, p, rfl, q1, q2, q3⟩ := inv hc
    obtain ⟨o1, o2⟩ := chkEs_ord q3
    exact gF_call C q1 hfr q2 (h.ge C q3) (star_of (o1 y List.mem_cons_self) ys _) (stars_of (fun z hz => o1 z (List.mem_cons_of_mem _ hz)) _ _)
  · have hfr' : S.G.fr f = false := by simpa using hfr
    refine .mk1 hfr' (fun {sc X W lv x} C hc => ?_) hv
    obtain ⟨g, y, ys, p, rfl, q1, q2, q3⟩ := inv hc
    obtain ⟨o1, o2⟩ := chkEs_ord q3
    exact gE_call C q1 hfr' q2 (h.ge C q3) (star_of (o1 y List.mem_cons_self) ys _) (stars_of (fun z hz => o1 z (List.mem_cons_of_mem _ hz)) _ _)
theorem tg_tuple {sc : Scope} {t : Tg} {x : Expr} (h : chkTg N sc t x = true) : ∀ i j, t = .pr i j → ∃ elts kk pos, x = .Tuple elts kk pos := fun i j e => by
  subst e
  obtain ⟨a, b, k, pos, rfl, _⟩ := chkTg_pr h
  exact ⟨_, _, _, rfl⟩
theorem EOK.comp {t : Tg} {src : Src} {c : Ox} {elt : Ex} (h : EOK S en N elt) (h1 : SrcOK S en N src) (h2 : OOK S en N c) : EOK S en N (.comp t src c elt) := by
  have inv : ∀ {sc : Scope} {x : Expr}, chkE S.M N sc (.comp t src c elt) x = true → ∃ y tg it ifs scope p, x = .ListComp y [⟨tg, it, ifs, 0⟩] scope p ∧ zipOk t src = true ∧ chkTg N (relS scope sc) t tg = true ∧ ownTg N scope t = true ∧ chkSrc S.M N sc src it = true ∧
      blkC N sc scope (ownOf N t) = true ∧ chkC S.M N (relS scope sc) c ifs = true ∧ chkE S.M N (relS scope sc) elt y = true := fun {sc x} hc => by
    unfold chkE at hc
    split at hc
    · simp only [Bool.and_eq_true] at hc
      exact ⟨_, _, _, _, _, _, rfl, hc.1.1.1.1.1.1, hc.1.1.1.1.1.2, hc.1.1.1.1.2, hc.1.1.1.2, hc.1.1.2, hc.1.2, hc.2⟩
    · cases hc
  refine .mkF rfl (fun {sc X W lv x} C hc => ?_) fun hc => ?_
  · obtain ⟨y, tg, it, ifs, scope, p, rfl, q0, q1, q2, q3, q4, q5, q6⟩ := inv hc
    obtain ⟨hpi, ho⟩ := h1.ge C q3 q0 (tg_tuple q1)
    refine peImp (pe_lc (g := gTg X.K t) (tt := GC X.K S en c) (te := GE X.K S en (fun _ _ _ _ => False) elt) C.calm (by rw [C.n]; exact C.nd) hpi (blkOk_by (own := ownOf N t) (by rw [C.n, C.sc]; exact q4)) (fun s H Cc cl fp => pg_blk C q1 q2 s H Cc cl fp) (fun s H Cc cl fp => h2.gc (C.blk s H scope Cc cl fp) q5) (fun s H Cc cl fp => h.ge (C.blk s H scope Cc cl fp) q6) (fun v => noSet_of ho v)) fun σ H Q q => ?_
    exact comp_read (ifs := ifs) (it := it) C q1 σ H Q q
  · obtain ⟨y, tg, it, ifs, scope, p, rfl, _⟩ := inv hc
    rfl
theorem EOK.compR {v i : Nat} {elt : Ex} (h : EOK S en N elt) : EOK S en N (.compR v i elt) := by
  have inv : ∀ {sc : Scope} {x : Expr}, chkE S.M N sc (.compR v i elt) x = true → ∃ y tg it scope p, x = .ListComp y [⟨tg, it, [], 0⟩] scope p ∧ chkTg N (relS scope sc) (.nm i) tg = true ∧ ownTg N scope (.nm i) = true ∧ chkF S.M N sc .rows v it = true ∧
      blkC N sc scope (ownOf N (.nm i)) = true ∧ chkE S.M N (relS scope sc) elt y = true := fun {sc x} hc => by
    unfold chkE at hc
    split at hc
    · simp only [Bool.and_eq_true] at hc
      exact ⟨_, _, _, _, _, rfl, hc.1.1.1.1, hc.1.1.1.2, hc.1.1.2, hc.1.2, hc.2⟩
    · cases hc
  refine .mkF rfl (fun {sc X W lv x} C hc => ?_) fun hc => ?_
  · obtain ⟨y, tg, it, scope, p, rfl, q1, q2, q3, q4, q6⟩ := inv hc
    have ho : ordX it = true := by
      obtain ⟨_, o, q, rfl, _⟩ := chkF_inv q3
      rfl
    refine peImp (pe_lc (g := gTg X.K (.nm i)) (tt := GC X.K S en .no) (te := GE X.K S en (fun _ _ _ _ => False) elt) C.calm (by rw [C.n]; exact C.nd) (pi_list (pe_field C q3)) (blkOk_by (own := ownOf N (.nm i)) (by rw [C.n, C.sc]; exact q4)) (fun s H Cc cl fp => pg_blk C q1 q2 s H Cc cl fp) (fun s H Cc cl fp => gC_no) (fun s H Cc cl fp => h.ge (C.blk s H scope Cc cl fp) q6) (fun v => noSet_of ho v)) fun σ H Q q => ?_
    exact compR_read (it := it) C q1 q3 σ H Q q
  · obtain ⟨y, tg, it, scope, p, rfl, _⟩ := inv hc
    rfl
theorem EOK.oix {i : Nat} {e : Ex} (h : EOK S en N e) : EOK S en N (.oix i e) := by
  have inv : ∀ {sc : Scope} {x : Expr}, chkE S.M N sc (.oix i e) x = true → ∃ y z p, x = .Subscript y z p ∧ chkV N sc i y = true ∧ chkE S.M N sc e z = true := fun {sc x} hc => by
    unfold chkE at hc
    split at hc
    · simp only [Bool.and_eq_true] at hc
      exact ⟨_, _, _, rfl, hc.1, hc.2⟩
    · cases hc
  refine .mk1 rfl (fun C hc => ?_) fun hc => ?_
  · obtain ⟨y, z, p, rfl, h1, h2⟩ := inv hc
    exact gE_oix C h1 (h.ge C h2) (plainIx_of (chkE_ord h2))
  · obtain ⟨y, z, p, rfl, _⟩ := inv hc
    rfl
theorem EOK.oln {i : Nat} : EOK S en N (.oln i) := by
  have inv : ∀ {sc : Scope} {x : Expr}, chkE S.M N sc (.oln i) x = true → ∃ g y p, x = .Call g [y] [] p ∧ glName sc "len" g = true ∧ chkV N sc i y = true := fun {sc x} hc => by
    unfold chkE at hc
    split at hc
    · simp only [Bool.and_eq_true] at hc
      exact ⟨_, _, _, rfl, hc.1, hc.2⟩
    · cases hc
  refine .mk1 rfl (fun C hc => ?_) fun hc => ?_
  · obtain ⟨g, y, p, rfl, hl, h⟩ := inv hc
    obtain ⟨p0, rfl, h1, h2, h3⟩ := gln C hl
    have ho : ordX y = true := by
      unfold chkV at h
      split at h
      · rfl
      · cases h
    refine peImp (pe_callB call_len_seq h1 (blt_none C (by decide +kernel)) PySem.boot_len (pa_cons (pe_slot C h) pa_nil (star_of ho [] _)) h3 h2 (star_of ho [] _) rfl) fun σ H Q ⟨δ, b, R, Q', E', I, w, k, ke⟩ => ?_
    have w' : (match LK.gt δ i with
      | .ow ds => Q' (.int ds.length) b
      | _ => False) := w
    cases hg : LK.gt δ i with
    | no => rw [hg] at w'; exact w'.elim
    | vl _ => rw [hg] at w'; exact w'.elim
    | ow ds =>
      rw [hg] at w'
      obtain ⟨p, xs, h1, oa, h2, h3, h4⟩ := I.owl hg
      refine ⟨_, h1, _, xs, rfl, .inl (SqL.of h2), ?_⟩
      rw [h3.length]
      exact k _ b _ R H I (StQ.refl I.sub) (.int _) w'
  · obtain ⟨g, y, p, rfl, _⟩ := inv hc
    rfl
theorem eqD_nil (ds : List D) : eqD (.lst ds) (.lst []) = ds.isEmpty := by
  cases ds <;> rfl
/-- an own list against the empty one -/
theorem onil_read {K : PySem.W.Frag} {i : Nat} {ne : Bool} {σ : L2.St} {H : Hp} {Q : Bool → Hp → Prop} {δ : Env} {b : Ob} {R : Hp} {Q' : D → Ob → Prop} (I : ER K S.bc en δ b σ R H) (w : wE S.G (.onil i ne) δ b Q' fun _ => False)
    (k : ∀ t R' H', ER K S.bc en δ b σ R' H' → Stp S.bc b b R H R' H' → Q' (.bl t) b → Q t H') {o : O2} (ho : o = if ne then .ne else .eq) : ∃ v, σ[i]? = some (some v) ∧ (([] : List V).length ≤ sizeLine ∧ ∀ p, H p = none → r2 K o v (.ref p) (upd H p (.lst [])) (fun x H' => ∃ t, x = .bl t ∧ Q t H')) := by
  have w' : (match gt δ i with
    | .ow ds => cmpOk 20 (.lst ds) = true ∧ Q' (.bl (if ne then !ds.isEmpty else ds.isEmpty)) b
    | _ => False) := w
  cases hg : gt δ i with
  | no => rw [hg] at w'; exact w'.elim
  | vl _ => rw [hg] at w'; exact w'.elim
  | ow ds =>
    rw [hg] at w'
    obtain ⟨hc, hq⟩ := w'
    obtain ⟨p, xs, h1, oa, h2, h3, h4⟩ := I.owl hg
    refine ⟨_, h1, by decide, fun q hq0 => ?_⟩
    have hqp : p ≠ q := fun e => by rw [e, hq0] at h2; cases h2
    have nq : R q = none := I.sub.fre hq0
    have s1 : Sub R (upd R p (.lst xs)) := Sub.new h4
    have s2 : Sub (upd R p (.lst xs)) (upd (upd R p (.lst xs)) q (.lst [])) := Sub.new (by rw [upd_ne hqp.symm]; exact nq)
    have hs : Sub (upd (upd R p (.lst xs)) q (.lst [])) (upd H q (.lst [])) := fun c u e => by
      by_cases hcq : c = q
      · subst hcq
        rw [upd_same] at e ⊢
        exact e
      · rw [upd_ne hcq] at e ⊢
        by_cases hcp : c = p
        · subst hcp
          rw [upd_same] at e
          rw [h2]
          exact e
        · rw [upd_ne hcp] at e
          exact I.sub c u e
    have fin : ∀ t R' H', Grow (upd (upd R p (.lst xs)) q (.lst [])) (upd H q (.lst [])) R' H' → Q' (.bl t) b → Q t H' := fun t R' H' g q' => by
      have g2 : Grow R H R H' := ⟨Sub.refl _, fun c u e => g.hh c u (Sub.new hq0 c u (I.sub c u e)), fun c u e => g.hh c u (Sub.new hq0 c u e), fun _ _ _ => rfl⟩
      exact k t R H' (I.grow g2) (I.stpG g2) q'
    subst ho
    refine ⟨_, .lst ds, .lst [], fun z => ∃ t, z = .bl t ∧ Q' (.bl t) b, hs, .lst (by rw [upd_ne hqp]; exact upd_same) (h3.mono (s1.trans s2)), .lst upd_same .nil, ?_, fun z v R' H' g r hz => ?_⟩
    · cases ne with
      | true => exact ⟨hc, rfl, _, rfl, by rw [eqD_nil]; exact hq⟩
      | false => exact ⟨hc, rfl, _, rfl, by rw [eqD_nil]; exact hq⟩
    · obtain ⟨t, rfl, q'⟩ := hz
      cases r
      exact ⟨t, rfl, fin t R' H' g q'⟩
theorem EOK.onil {i : Nat} {ne : Bool} : EOK S en N (.onil i ne) := by
  have inv : ∀ {sc : Scope} {x : Expr}, chkE S.M N sc (.onil i ne) x = true → ∃ y p2 p, x = .Compare y [if ne then CmpOp.NotEq else CmpOp.Eq] [.List [] p2] p ∧ chkV N sc i y = true := fun {sc x} hc => by
    unfold chkE at hc
    split at hc
    · simp only [Bool.and_eq_true, decide_eq_true_eq] at hc
      obtain ⟨h1, rfl⟩ := hc
      exact ⟨_, _, _, rfl, h1⟩
    · cases hc
  have weak : ∀ {δ : Env} {b : Ob} {Q' : D → Ob → Prop} {E' : Nat → Prop}, wE S.G (.onil i ne) δ b Q' E' → wE S.G (.onil i ne) δ b Q' fun _ => False := fun h => h
  refine ⟨fun {sc X W lv x} C hc => ?_, fun _ _ z => (by cases z), fun {sc X W lv x} C hc => ?_⟩
  · obtain ⟨y, p2, p, rfl, h⟩ := inv hc
    have hu : X.A.units + 64 < cLine := by have := C.room.un; omega
    cases ne with
    | true =>
      refine peImp (pe_cmpR (b_ne hu) (pe_slot C h) (pe_lst pa_nil) (marks_of rfl _)) fun σ H Q ⟨δ, b, R, Q', E', I, w, k, ke⟩ => ?_
      obtain ⟨v, h1, h2, h3⟩ := onil_read (Q := fun t H' => Q (.bl t) H') I (weak w) (fun t R' H' J s q => k (.bl t) b (.bl t) R' H' J ⟨s, fun _ => rfl, fun z => by cases z⟩ (.bl t) q) (o := .ne) rfl
      refine ⟨v, h1, h2, fun p hp => ?_⟩
      obtain ⟨R2, dx, dy, Q2, a1, a2, a3, a4, a5⟩ := h3 p hp
      exact ⟨R2, dx, dy, Q2, a1, a2, a3, a4, fun z v R' H' g r hz => by
        obtain ⟨t, rfl, q⟩ := a5 z v R' H' g r hz
        exact q⟩
    | false =>
      refine peImp (pe_cmpR (b_eq hu) (pe_slot C h) (pe_lst pa_nil) (marks_of rfl _)) fun σ H Q ⟨δ, b, R, Q', E', I, w, k, ke⟩ => ?_
      obtain ⟨v, h1, h2, h3⟩ := onil_read (Q := fun t H' => Q (.bl t) H') I (weak w) (fun t R' H' J s q => k (.bl t) b (.bl t) R' H' J ⟨s, fun _ => rfl, fun z => by cases z⟩ (.bl t) q) (o := .eq) rfl
      refine ⟨v, h1, h2, fun p hp => ?_⟩
      obtain ⟨R2, dx, dy, Q2, a1, a2, a3, a4, a5⟩ := h3 p hp
      exact ⟨R2, dx, dy, Q2, a1, a2, a3, a4, fun z v R' H' g r hz => by
        obtain ⟨t, rfl, q⟩ := a5 z v R' H' g r hz
        exact q⟩
  · obtain ⟨y, p2, p, rfl, h⟩ := inv hc
    have hu : X.A.units + 64 < cLine := by have := C.room.un; omega
    refine ⟨?_, fun _ _ _ z => (by cases z)⟩
    cases ne with
    | true =>
      refine ptImp (pt_cmpR (b_ne hu) (pe_slot C h) (pe_lst pa_nil) (marks_of rfl _)) fun σ H Q ⟨δ, b, R, Q', E', I, w, k, ke⟩ => ?_
      obtain ⟨v, h1, h2, h3⟩ := onil_read (Q := Q) I (weak w) (fun t R' H' J s q => k t b R' H' J s q) (o := .ne) rfl
      exact ⟨v, h1, h2, h3⟩
    | false =>
      refine ptImp (pt_cmpR (b_eq hu) (pe_slot C h) (pe_lst pa_nil) (marks_of rfl _)) fun σ H Q ⟨δ, b, R, Q', E', I, w, k, ke⟩ => ?_
      obtain ⟨v, h1, h2, h3⟩ := onil_read (Q := Q) I (weak w) (fun t R' H' J s q => k t b R' H' J s q) (o := .eq) rfl
      exact ⟨v, h1, h2, h3⟩
theorem EOK.fix {f : Fl} {v : Nat} {e : Ex} (h : EOK S en N e) : EOK S en N (.fix f v e) := by
  have inv : ∀ {sc : Scope} {x : Expr}, chkE S.M N sc (.fix f v e) x = true → ∃ y z p, x = .Subscript y z p ∧ quiet e = true ∧ chkF S.M N sc f v y = true ∧ chkE S.M N sc e z = true := fun {sc x} hc => by
    unfold chkE at hc
    split at hc
    · simp only [Bool.and_eq_true] at hc
      exact ⟨_, _, _, rfl, hc.1.1, hc.1.2, hc.2⟩
    · cases hc
  refine .mk1 rfl (fun C hc => ?_) fun hc => ?_
  · obtain ⟨y, z, p, rfl, h0, h1, h2⟩ := inv hc
    exact gE_fix C h0 h1 (h.ge C h2) (plainIx_of (chkE_ord h2))
  · obtain ⟨y, z, p, rfl, _⟩ := inv hc
    rfl
theorem EOK.flen {f : Fl} {v : Nat} : EOK S en N (.flen f v) := by
  have inv : ∀ {sc : Scope} {x : Expr}, chkE S.M N sc (.flen f v) x = true → ∃ g y p, x = .Call g [y] [] p ∧ glName sc "len" g = true ∧ chkF S.M N sc f v y = true := fun {sc x} hc => by
    unfold chkE at hc
    split at hc
    · simp only [Bool.and_eq_true] at hc
      exact ⟨_, _, _, rfl, hc.1, hc.2⟩
    · cases hc
  refine .mk1 rfl (fun C hc => ?_) fun hc => ?_
  · obtain ⟨g, y, p, rfl, h1, h2⟩ := inv hc
    exact gE_flen C h1 h2
  · obtain ⟨g, y, p, rfl, _⟩ := inv hc
    rfl
theorem EOK.fin {f : Fl} {v : Nat} {e : Ex} (h : EOK S en N e) : EOK S en N (.fin f v e) := by
  have inv : ∀ {sc : Scope} {x : Expr}, chkE S.M N sc (.fin f v e) x = true → ∃ y z p, x = .Compare y [.In] [z] p ∧ chkE S.M N sc e y = true ∧ chkF S.M N sc f v z = true := fun {sc x} hc => by
    unfold chkE at hc
    split at hc
    · simp only [Bool.and_eq_true] at hc
      exact ⟨_, _, _, rfl, hc.1, hc.2⟩
    · cases hc
  refine ⟨fun C hc => ?_, fun _ _ z => (by cases z), fun C hc => ?_⟩
  · obtain ⟨y, z, p, rfl, h1, h2⟩ := inv hc
    exact gE_fin C h2 (h.ge C h1)
  · obtain ⟨y, z, p, rfl, h1, h2⟩ := inv hc
    exact ⟨gT_fin C h2 (h.ge C h1), fun _ _ _ z => (by cases z)⟩
theorem EOK.fidx {f : Fl} {v : Nat} {e : Ex} (h : EOK S en N e) : EOK S en N (.fidx f v e) := by
  have inv : ∀ {sc : Scope} {x : Expr}, chkE S.M N sc (.fidx f v e) x = true → ∃ y z ap cp, x = .Call (.Attribute y "index" ap) [z] [] cp ∧ quiet e = true ∧ chkF S.M N sc f v y = true ∧ (ap.endLine == cp.line) = true ∧ chkE S.M N sc e z = true := fun {sc x} hc => by
    unfold chkE at hc
    split at hc
    · simp only [Bool.and_eq_true] at hc
      have e := beq_iff_eq.mp hc.1.1.2
      subst e
      exact ⟨_, _, _, _, rfl, hc.1.1.1.1, hc.1.1.1.2, hc.1.2, hc.2⟩
    · cases hc
  refine .mk1 rfl (fun C hc => ?_) fun hc => ?_
  · obtain ⟨y, z, ap, cp, rfl, h0, h1, h2, h3⟩ := inv hc
    exact gE_fidx C h0 h1 h2 (chkE_ord h3) (h.ge C h3)
  · obtain ⟨y, z, ap, cp, rfl, _⟩ := inv hc
    rfl
theorem EOK.fgoal {v : Nat} : EOK S en N (.fgoal v) := .mk1 rfl (fun C hc => gE_fgoal C (by simpa [chkE] using hc)) fun {sc x} hc => by
  have h : chkF S.M N sc .goal v x = true := by simpa [chkE] using hc
  obtain ⟨_, o, q, rfl, _⟩ := chkF_inv h
  rfl
theorem EOK.fsl {f : Fl} {v : Nat} {lo hi : Ox} (h1 : OOK S en N lo) (h2 : OOK S en N hi) : EOK S en N (.fsl f v lo hi) := by
  have inv : ∀ {sc : Scope} {x : Expr}, chkE S.M N sc (.fsl f v lo hi) x = true → ∃ y l h p2 p, x = .Subscript y (.Slice l h none p2) p ∧ quietO lo = true ∧ quietO hi = true ∧ chkF S.M N sc f v y = true ∧ chkO S.M N sc lo l = true ∧ chkO S.M N sc hi h = true := fun {sc x} hc => by
    unfold chkE at hc
    split at hc
    · simp only [Bool.and_eq_true] at hc
      exact ⟨_, _, _, _, _, rfl, hc.1.1.1.1, hc.1.1.1.2, hc.1.1.2, hc.1.2, hc.2⟩
    · cases hc
  refine .mk1 rfl (fun C hc => ?_) fun hc => ?_
  · obtain ⟨y, l, hh, p2, p, rfl, a1, a2, q1, q2, q3⟩ := inv hc
    exact gE_fsl C a1 a2 q1 (h1.ge C q2) (h2.ge C q3)
  · obtain ⟨y, l, hh, p2, p, rfl, _⟩ := inv hc
    rfl

theorem EsOK.nil : EsOK S en N .nil := ⟨fun {sc X W lv xs} C hc => by
  cases xs with
  | nil => exact gEs_nil
  | cons _ _ => simp [chkEs] at hc⟩
theorem EsOK.cons {e : Ex} {es : Exs} (h : EOK S en N e) (h' : EsOK S en N es) : EsOK S en N (.cons e es) := ⟨fun {sc X W lv xs} C hc => by
  cases xs with
  | nil => simp [chkEs] at hc
  | cons x xs =>
    simp only [chkEs, Bool.and_eq_true] at hc
    exact gEs_cons (h.ge C hc.1) (h'.ge C hc.2) (star_of (chkE_ord hc.1) xs _)⟩
theorem OOK.no : OOK S en N .no where
  ge := fun {sc X W lv x} C hc => by
    cases x with
    | none => exact gO_no
    | some _ => simp [chkO] at hc
  gc := fun {sc X lv xs} C hc => by
    cases xs with
    | nil => exact gC_no
    | cons _ _ => simp [chkC] at hc
theorem OOK.so {e : Ex} (h : EOK S en N e) : OOK S en N (.so e) where
  ge := fun {sc X W lv x} C hc => by
    cases x with
    | none => simp [chkO] at hc
    | some x => exact gO_so (h.ge C (by simpa [chkO] using hc))
  gc := fun {sc X lv xs} C hc => by
    match xs, hc with
    | [x], hc => exact gC_so (h.gt C (by simpa [chkC] using hc)).1
    | [], hc => simp [chkC] at hc
    | _ :: _ :: _, hc => simp [chkC] at hc
theorem SrcOK.rng {e : Ex} (h : EOK S en N e) : SrcOK S en N (.rng e) := ⟨fun {sc X W lv x tg t} C hc hz ht => by
  unfold chkSrc at hc
  split at hc
  · simp only [Bool.and_eq_true] at hc
    exact ⟨gI_rng C hc.1 (chkE_ord hc.2) (h.ge C hc.2), rfl⟩
  · cases hc⟩
theorem SrcOK.rng2 {e c : Ex} (h : EOK S en N e) (h' : EOK S en N c) : SrcOK S en N (.rng2 e c) := ⟨fun {sc X W lv x tg t} C hc hz ht => by
  unfold chkSrc at hc
  split at hc
  · simp only [Bool.and_eq_true] at hc
    exact ⟨gI_rng2 C hc.1.1 (chkE_ord hc.1.2) (chkE_ord hc.2) (h.ge C hc.1.2) (h'.ge C hc.2), rfl⟩
  · cases hc⟩
theorem SrcOK.seq {e : Ex} (h : EOK S en N e) : SrcOK S en N (.seq e) := ⟨fun {sc X W lv x tg t} C hc hz ht => by
  have hc' : chkE S.M N sc e x = true := by simpa [chkSrc] using hc
  exact ⟨gI_seq (chkE_ord hc') (h.ge C hc'), chkE_ord hc'⟩⟩
theorem SrcOK.chs {e : Ex} (h : EOK S en N e) : SrcOK S en N (.chs e) := ⟨fun {sc X W lv x tg t} C hc hz ht => by
  have hc' : chkE S.M N sc e x = true := by simpa [chkSrc] using hc
  exact ⟨gI_chs (h.ge C hc'), chkE_ord hc'⟩⟩
theorem SrcOK.zip {e c : Ex} (h : EOK S en N e) (h' : EOK S en N c) : SrcOK S en N (.zip e c) := ⟨fun {sc X W lv x tg t} C hc hz ht => by
  unfold chkSrc at hc
  split at hc
  · simp only [Bool.and_eq_true] at hc
    cases t with
    | nm i => cases hz
    | pr i j =>
      obtain ⟨elts, kk, pos, rfl⟩ := ht i j rfl
      exact ⟨gI_zip C hc.1.1 (chkE_ord hc.1.2) (chkE_ord hc.2) (h.ge C hc.1.2) (h'.ge C hc.2), rfl⟩
  · cases hc⟩
mutual
theorem eok : ∀ e : Ex, EOK S en N e
  | .var i => .var i
  | .cst d => .cst d
  | .glb g => .glb g
  | .op1 o a => (eok a).op1 o
  | .op2 o a c => (eok a).op2 (eok c) o
  | .and a c => (eok a).and (eok c)
  | .or a c => (eok a).or (eok c)
  | .not a => (eok a).not
  | .one a => (eok a).one
  | .tup es => .tup (esok es)
  | .lst es => .lst (esok es)
  | .sl a lo hi => .sl (eok a) (ook lo) (ook hi)
  | .call f es => .call (esok es)
  | .comp t src c elt => .comp (eok elt) (srcok src) (ook c)
  | .compR v i elt => .compR (eok elt)
  | .oix i e => .oix (eok e)
  | .oln i => .oln
  | .onil i ne => .onil
  | .fix f v e => .fix (eok e)
  | .flen f v => .flen
  | .fin f v e => .fin (eok e)
  | .fidx f v e => .fidx (eok e)
  | .fgoal v => .fgoal
  | .fsl f v lo hi => .fsl (ook lo) (ook hi)
  | .lend i e => .lend (eok e)
  | .slF a lo hi => .slF (eok a) (ook lo) (ook hi)
  | .mth m a c => .mth (eok a) (eok c)
theorem esok : ∀ es : Exs, EsOK S en N es
  | .nil => .nil
  | .cons e es => .cons (eok e) (esok es)
theorem ook : ∀ o : Ox, OOK S en N o
  | .no => .no
  | .so e => .so (eok e)
theorem srcok : ∀ s : Src, SrcOK S en N s
  | .rng e => .rng (eok e)
  | .rng2 a c => .rng2 (eok a) (eok c)
  | .seq e => .seq (eok e)
  | .zip a c => .zip (eok a) (eok c)
  | .chs e => .chs (eok e)
end
end
end LK

/-! Statements. -/
namespace LK
open PySem PySem.Spec PyProof.Rows L2

/-- what a return leaves -/
def RetR (K : PySem.W.Frag) (S : Sy) (en : En) (ow : Bool) (d : D) (b : Ob) (v : V) (R H : Hp) : Prop :=
  if ow = true then ∃ ds, d = .lst ds ∧ ER K S.bc en [.ow ds] b [some v] R H else ER K S.bc en [.vl d] b [some v] R H
/-- the ends, as data and as heaps -/
structure KO (K : PySem.W.Frag) (S : Sy) (en : En) (W : WX) (ow : Bool) (k : Kt) (D : Ends) : Prop where
  nx : ∀ δ b σ R H, ER K S.bc en δ b σ R H → k.nx δ b → D.nx σ H
  rt : ∀ d b v R H, RetR K S en ow d b v R H → k.rt d b → D.rt v H
  ex : ∀ c δ σ R H, S.M.hc c = true → ER K S.bc en δ none σ R H → k.ex c δ → W (.ref (S.ca c)) none σ H
def GS (K : PySem.W.Frag) (S : Sy) (en : En) (W : WX) (ow : Bool) (s : Sm) : TS := fun D σ H => ∃ δ b R k, ER K S.bc en δ b σ R H ∧ wS S.G s k δ b ∧ KO K S en W ow k D
def GB (K : PySem.W.Frag) (S : Sy) (en : En) (W : WX) (ow : Bool) (s : Sms) : TS := fun D σ H => ∃ δ b R k, ER K S.bc en δ b σ R H ∧ wB S.G s k δ b ∧ KO K S en W ow k D
/-- the context of statements -/
structure CS (S : Sy) (N : List Str) (sc : Scope) (X : Cx) (W : WX) (lv : Nat) : Prop extends CK S N sc X W lv where
  fn : ∀ s, X.fn s = true
  stk : X.stack = X.env :: X.outer
  fr : X.env.frame = some X.env.locals
  pa : PassesOwn (model X.prog X.w) X.A X.env X.xe
  kind : X.env.scope.kind = .function

section
variable {K : PySem.W.Frag} {S : Sy} {en : En} {δ : Env} {b : Ob} {σ : L2.St} {R H : Hp}
theorem KO.eok {W : WX} {ow : Bool} {k : Kt} {D : Ends} (o : KO K S en W ow k D) : EOk K S en W δ σ fun c => k.ex c δ := fun c R' H' hh I h => o.ex c δ σ R' H' hh I h
theorem ER.ret {bc : Addr} (I : ER K bc en δ b σ R H) {v : V} {d : D} (r : Rp K R v d) : ER K bc en [.vl d] b [some v] R H where
  len := rfl
  sub := I.sub
  stp := I.stp
  sl := fun i u e => by
    cases i with
    | zero =>
      cases e
      exact .vl r
    | succ i => cases e
  own := fun i p ⟨ds, h, _⟩ => by
    cases i with
    | zero => cases h
    | succ i => cases h
  dis := fun i j p ⟨ds, h, _⟩ => by
    cases i with
    | zero => cases h
    | succ i => cases h
  bd := fun p B e => by
    obtain ⟨a, r, _⟩ := I.bd p B e
    refine ⟨a, r, fun i q ⟨ds, h, _⟩ => ?_⟩
    cases i with
    | zero => cases h
    | succ i => cases h
theorem ER.retO {bc : Addr} (I : ER K bc en δ b σ R H) {p : Addr} {xs : List V} {ds : List D} (h0 : en.H0 p = none) (nr : R p = none) (nb : ¬ Bo bc b H p) (h : H p = some (.lst xs)) (r : Rps K R xs ds) : ER K bc en [.ow ds] b [some (.ref p)] R H where
  len := rfl
  sub := I.sub
  stp := I.stp
  sl := fun i u e => by
    cases i with
    | zero =>
      cases e
      exact .ow h r nr
    | succ i => cases e
  own := fun i q ⟨es, g, e⟩ => by
    cases i with
    | zero =>
      cases e
      exact h0
    | succ i => cases g
  dis := fun i j q ⟨es, g, e⟩ ⟨es', g', e'⟩ => by
    cases i with
    | zero =>
      cases j with
      | zero => rfl
      | succ j => cases g'
    | succ i => cases g
  bd := fun p' B e => by
    obtain ⟨a, r', _⟩ := I.bd p' B e
    refine ⟨a, r', fun i q ⟨es, g, e2⟩ hq => ?_⟩
    cases i with
    | zero =>
      cases e2
      exact nb (by rw [e]; exact (Bo.iff r').mpr hq)
    | succ i => cases g
end

section
variable {S : Sy} {en : En} {N : List Str} {sc : Scope} {X : Cx} {W : WX} {lv : Nat} {ow : Bool}
theorem CS.hfn (C : CS S N sc X W lv) : ∀ s, isLoc sc s = true → X.fn s = true ∨ X.env.scope.names.lookup s = some .local := fun s _ => .inl (C.fn s)
theorem chkL_inv {i : Nat} {y : Expr} (h : chkL N sc i y = true) : ∃ s pos, y = .Name s pos ∧ N[i]? = some s ∧ isLoc sc s = true := by
  unfold chkL at h
  split at h
  · simp only [Bool.and_eq_true, decide_eq_true_eq] at h
    exact ⟨_, _, rfl, h.1, h.2⟩
  · cases h
/-- name = value, the value's reading given -/
theorem gS_asgT (C : CS S N sc X W lv) {i : Nat} {e : Ex} {y z : Expr} {pos : Pos} {te : TE} (ht : PS X (.Assign [y] z pos) (tAsg te (gName i))) (hi : ∀ σ H Q, GE X.K S en W e σ H Q → te σ H Q) : PS X (.Assign [y] z pos) (GS X.K S en W ow (.asg i e)) :=
  psImp ht fun D σ H ⟨δ, b, R, k, I, w, o⟩ => hi σ H _ ⟨δ, b, R, _, _, I, w, fun d b1 v R1 H1 J st r q => o.nx _ b1 _ R1 H1 (J.setV r) q, o.eok⟩
theorem gS_asgOT (C : CS S N sc X W lv) {i : Nat} {e : Ex} {y z : Expr} {pos : Pos} {te : TE} (ht : PS X (.Assign [y] z pos) (tAsg te (gName i))) (hi : ∀ σ H Q, GF X.K S en W e σ H Q → te σ H Q) : PS X (.Assign [y] z pos) (GS X.K S en W ow (.asgO i e)) :=
  psImp ht fun D σ H ⟨δ, b, R, k, I, w, o⟩ => hi σ H _ ⟨δ, b, R, _, _, I, w, fun ds b1 p xs R1 H1 J st n nr nb hp r q =>
    o.nx _ b1 _ R1 H1 (J.setO (I.freG n st nr nb) hp r) q, o.eok⟩
theorem ordF {M : Nms} {f : Fl} {v : Nat} {x : Expr} (h : chkF M N sc f v x = true) : ordX x = true := by
  obtain ⟨_, o, q, rfl, _⟩ := chkF_inv h
  rfl
theorem chkE_lc {M : Nms} {e : Ex} {elt : Expr} {gs : List Comprehension} {scope : Scope} {p : Pos} (h : chkE M N sc e (.ListComp elt gs scope p) = true) : (∃ t src c el, e = .comp t src c el) ∨ ∃ v i el, e = .compR v i el := by
  cases e with
  | comp t src c el => exact .inl ⟨_, _, _, _, rfl⟩
  | compR v i el => exact .inr ⟨_, _, _, rfl⟩
  | op1 o a =>
    exfalso
    rcases chkE_op1 h with ⟨_, _, _, z, _⟩ | ⟨_, _, _, _, _, z, _⟩ | ⟨_, _, _, _, _, z, _⟩ | ⟨_, _, _, _, _, z, _⟩ | ⟨_, _, _, _, _, _, z, _⟩ <;> cases z
  | op2 o a c =>
    exfalso
    rcases chkE_op2 h with ⟨_, _, _, _, _, z, _⟩ | ⟨_, _, _, _, _, z, _⟩ | ⟨_, _, _, _, _, _, z, _⟩ | ⟨_, _, _, _, z, _⟩ <;> cases z
  | _ =>
    exfalso
    simp [chkE, chkV, chkK, glName, chkF] at h
/-- both, for any value: the two ways that a comprehension may be stored -/
theorem asg_any (C : CS S N sc X W lv) {i : Nat} {e : Ex} {y z : Expr} {pos : Pos} (hy : chkL N sc i y = true) (ha : chkAs sc y z = true) (he : chkE S.M N sc e z = true) :
    (∃ te, PS X (.Assign [y] z pos) (tAsg te (gName i)) ∧ (∀ σ H Q, GE X.K S en W e σ H Q → te σ H Q)) ∧ (fresh S.G.fr e = true → ∃ te, PS X (.Assign [y] z pos) (tAsg te (gName i)) ∧ ∀ σ H Q, GF X.K S en W e σ H Q → te σ H Q) := by
  obtain ⟨s, py, rfl, hN, hl⟩ := chkL_inv hy
  have hN' : X.N[i]? = some s := by rw [C.n]; exact hN
  have hnd : X.N.Nodup := by rw [C.n]; exact C.nd
  have hkind : X.env.scope.kind = .function := C.kind
  -- the plain way
  have plain : swapsWith z (some (.Name s py)) pos.line X.env = pure false → (∃ te, PS X (.Assign [.Name s py] z pos) (tAsg te (gName i)) ∧ (∀ σ H Q, GE X.K S en W e σ H Q → te σ H Q)) ∧ (fresh S.G.fr e = true → ∃ te, PS X (.Assign [.Name s py] z pos) (tAsg te (gName i)) ∧ ∀ σ H Q, GF X.K S en W e σ H Q → te σ H Q) := fun hs =>
    ⟨⟨_, ps_set hnd hN' (C.loc hl) ((eok e).ge C.toCK he) hs (.inl (C.fn s)), fun σ H Q q => q⟩, fun hf => ⟨_, ps_set hnd hN' (C.loc hl) ((eok e).gf C.toCK he hf) hs (.inl (C.fn s)), fun σ H Q q => q⟩⟩
  by_cases hz : ∃ elt gs scope p, z = .ListComp elt gs scope p
  · obtain ⟨elt, gs, scope, p, rfl⟩ := hz
    have ha' : (match sc.names.lookup s with
      | some .local => py.line == p.line && !(scope.names.any fun (n, k) => n == s && (k == .local || k == .cell))
      | some .cell => true
      | _ => false) = true := ha
    cases hloc : sc.names.lookup s with
    | none => rw [hloc] at ha'; cases ha'
    | some kd =>
      rw [hloc] at ha'
      cases kd with
      | free => cases ha'
      | globalExplicit => cases ha'
      | globalImplicit => cases ha'
      | cell =>
        refine plain ?_
        have ky : X.env.kindOf s = some .cell := by
          show X.env.scope.names.lookup s = some .cell
          rw [C.sc]
          exact hloc
        have e0 : (some NameKind.cell == some NameKind.local) = false := rfl
        unfold swapsWith
        simp only [ky, e0, Bool.and_false, Bool.false_and]
      | «local» =>
        have ha2 : (py.line == p.line) = true ∧ (scope.names.any fun (n, k) => n == s && (k == .local || k == .cell)) = false := by simpa only [Bool.and_eq_true, Bool.not_eq_true'] using ha'
        have hk : X.env.scope.names.lookup s = some .local := by rw [C.sc]; exact hloc
        have sw := sw_true (elt := elt) (gs := gs) (l := pos.line) hkind hk ha2.1 ha2.2
        rcases chkE_lc he with ⟨t, src, c, el, rfl⟩ | ⟨v, i', el, rfl⟩
        · unfold chkE at he
          split at he
          · rename_i e1
            cases e1
            simp only [Bool.and_eq_true] at he
            obtain ⟨⟨⟨⟨⟨⟨q0, q1⟩, q2⟩, q3⟩, q4⟩, q5⟩, q6⟩ := he
            obtain ⟨hpi, ho⟩ := (srcok src).ge C.toCK q3 q0 (tg_tuple q1)
            have P := ps_setLc (py := py) (spos := pos) (g := gTg X.K t) (tt := GC X.K S en c) (te := GE X.K S en (fun _ _ _ _ => False) el) C.calm hnd hN' hk sw hpi (blkOk_by (own := ownOf N t) (by rw [C.n, C.sc]; exact q4)) (fun s H Cc cl fp => pg_blk C.toCK q1 q2 s H Cc cl fp) (fun s H Cc cl fp => (ook c).gc (C.toCK.blk s H _ Cc cl fp) q5) (fun s H Cc cl fp => (eok el).ge (C.toCK.blk s H _ Cc cl fp) q6) (fun v => noSet_of ho v)
            exact ⟨⟨_, P, fun σ H Q q => comp_read (ifs := []) (it := .Name s py) C.toCK q1 σ H Q (ge_to_gf rfl q)⟩, fun _ => ⟨_, P, fun σ H Q q => comp_read (ifs := []) (it := .Name s py) C.toCK q1 σ H Q q⟩⟩
          · cases he
        · unfold chkE at he
          split at he
          · rename_i e1
            cases e1
            simp only [Bool.and_eq_true] at he
            obtain ⟨⟨⟨⟨q1, q2⟩, q3⟩, q4⟩, q6⟩ := he
            have ho := ordF q3
            have P := ps_setLc (py := py) (spos := pos) (g := gTg X.K (.nm i')) (tt := GC X.K S en .no) (te := GE X.K S en (fun _ _ _ _ => False) el) C.calm hnd hN' hk sw (pi_list (pe_field C.toCK q3)) (blkOk_by (own := ownOf N (.nm i')) (by rw [C.n, C.sc]; exact q4)) (fun s H Cc cl fp => pg_blk C.toCK q1 q2 s H Cc cl fp) (fun s H Cc cl fp => gC_no) (fun s H Cc cl fp => (eok el).ge (C.toCK.blk s H _ Cc cl fp) q6) (fun v => noSet_of ho v)
            exact ⟨⟨_, P, fun σ H Q q => compR_read C.toCK q1 q3 σ H Q (ge_to_gf rfl q)⟩, fun _ => ⟨_, P, fun σ H Q q => compR_read C.toCK q1 q3 σ H Q q⟩⟩
          · cases he
  · refine plain ?_
    cases z with
    | ListComp a b c d => exact absurd ⟨_, _, _, _, rfl⟩ hz
    | SetComp a b c d => exact absurd ha (by simp [chkAs])
    | DictComp a b c d e => exact absurd ha (by simp [chkAs])
    | _ => rfl
end
end LK

/-! Statements: the rules. -/
namespace LK
open PySem PySem.Spec PyProof.Rows L2
section
variable {S : Sy} {en : En} {N : List Str} {sc : Scope} {X : Cx} {W : WX} {lv : Nat} {ow : Bool} {y z o : Expr} {e a c : Ex} {pos p2 : Pos}
theorem chkV_inv {i : Nat} {y : Expr} (h : chkV N sc i y = true) : ∃ s pos, y = .Name s pos := by
  unfold chkV at h
  split at h
  · exact ⟨_, _, rfl⟩
  · cases h
theorem gS_ret (C : CS S N sc X W lv) (h : PE X y (GE X.K S en W e)) : PS X (.Return (some y) pos) (GS X.K S en W false (.ret e)) :=
  psImp (ps_ret h) fun D σ H ⟨δ, b, R, k, I, w, o⟩ => ⟨δ, b, R, _, _, I, w, fun d b1 v R1 H1 J st r q => o.rt d b1 v R1 H1 (by
    unfold RetR
    rw [if_neg Bool.false_ne_true]
    exact J.ret r) q, o.eok⟩
theorem gS_retF (C : CS S N sc X W lv) (h : PE X y (GF X.K S en W e)) : PS X (.Return (some y) pos) (GS X.K S en W true (.ret e)) :=
  psImp (ps_ret h) fun D σ H ⟨δ, b, R, k, I, w, o⟩ => ⟨δ, b, R, _, _, I, w, fun ds b1 p xs R1 H1 J st n nr nb hp r q => o.rt (.lst ds) b1 (.ref p) R1 H1 (by
    unfold RetR
    rw [if_pos rfl]
    exact ⟨ds, rfl, J.retO (I.freN n).h0 nr nb hp r⟩) q, o.eok⟩
theorem gS_retO (C : CS S N sc X W lv) {i : Nat} (h : chkV N sc i y = true) : PS X (.Return (some y) pos) (GS X.K S en W true (.retO i)) :=
  psImp (ps_ret (pe_slot C.toCK h)) fun D σ H ⟨δ, b, R, k, I, w, o⟩ => by
    have w' : (match gt δ i with
      | .ow ds => k.rt (.lst ds) b
      | _ => False) := w
    cases hg : gt δ i with
    | no => rw [hg] at w'; exact w'.elim
    | vl _ => rw [hg] at w'; exact w'.elim
    | ow ds =>
      rw [hg] at w'
      obtain ⟨p, xs, h1, oa, h2, h3, h4⟩ := I.owl hg
      refine ⟨_, h1, o.rt (.lst ds) b (.ref p) R H ?_ w'⟩
      unfold RetR
      rw [if_pos rfl]
      exact ⟨ds, rfl, I.retO (I.own i p oa) h4 (fun z => (I.bo_no z).2.1 i oa) h2 h3⟩
theorem gS_expr (C : CS S N sc X W lv) (h : PE X y (GE X.K S en W e)) (hs : swapsWith y none pos.line X.env = pure false) : PS X (.Expr y pos) (GS X.K S en W ow (.expr e)) :=
  psImp (ps_expr h hs) fun D σ H ⟨δ, b, R, k, I, w, o⟩ => ⟨δ, b, R, _, _, I, w, fun d b1 v R1 H1 J st r q => o.nx _ b1 σ R1 H1 J q, o.eok⟩
theorem gS_rais (C : CS S N sc X W lv) {c : Nat} {f : Expr} {m : Str} {j : Nat} {p3 p4 : Pos} (hc : S.M.hc c = true) (hf : glName sc (S.M.ex c) f = true) : PS X (.Raise (some (.Call f [.Constant (.str m) j p3] [] p4)) none pos) (GS X.K S en W ow (.rais c)) := by
  obtain ⟨p0, rfl, h1, h2, h3⟩ := gln C.toCK hf
  have E := C.fs.ex c hc
  exact psImp (ps_raise C.calm C.tk (pmk_own PySem.F.excBase_ValueError E.x E.g E.k (raises_own E.b E.t) h1 h2)) fun D σ H ⟨δ, b, R, k, I, w, o⟩ => o.ex c δ σ R H hc I.forget w
theorem gS_ite (C : CS S N sc X W lv) {t u : Sms} {ys zs : List Stmt} (hc : PT X y (GT X.K S en W c)) (ht : PSs X ys (GB X.K S en W ow t)) (hu : PSs X zs (GB X.K S en W ow u)) : PS X (.If y ys zs pos) (GS X.K S en W ow (.ite c t u)) :=
  psImp (ps_if hc ht hu) fun D σ H ⟨δ, b, R, k, I, w, o⟩ => by
    refine ⟨δ, b, R, fun tt b1 => if tt then wB S.G t k δ b1 else wB S.G u k δ b1, _, I, w, fun tt b1 R1 H1 J st q => ?_, o.eok⟩
    cases tt with
    | true =>
      rw [if_pos rfl] at q ⊢
      exact ⟨δ, b1, R1, k, J, q, o⟩
    | false =>
      rw [if_neg Bool.false_ne_true] at q ⊢
      exact ⟨δ, b1, R1, k, J, q, o⟩
theorem gS_whil (C : CS S N sc X W lv) {t : Sms} {ys : List Stmt} (hc : PT X y (GT X.K S en W c)) (ht : PSs X ys (GB X.K S en W ow t)) : PS X (.While y ys [] pos) (GS X.K S en W ow (.whil c t)) :=
  psImp (ps_while C.pa hc ht) fun D σ H ⟨δ, b, R, k, I, w, o⟩ => by
    obtain ⟨P, ⟨m0, w0⟩, w⟩ := w
    refine ⟨fun m σ H => ∃ δ b R, ER X.K S.bc en δ b σ R H ∧ P m δ b, ⟨m0, δ, b, R, I, w0⟩, fun m σ1 H1 ⟨δ1, b1, R1, I1, w1⟩ => ?_⟩
    refine ⟨δ1, b1, R1, fun tt b2 => if tt then wB S.G t { k with nx := fun δ' b' => ∃ m', m' < m ∧ P m' δ' b' } δ1 b2 else k.nx δ1 b2, _, I1, w m δ1 b1 w1, fun tt b2 R2 H2 J st q => ?_, o.eok⟩
    cases tt with
    | true =>
      rw [if_pos rfl] at q ⊢
      exact ⟨fun σ' H' => ∃ m', m' < m ∧ ∃ δ b R, ER X.K S.bc en δ b σ' R H' ∧ P m' δ b, fun _ _ h => h, δ1, b2, R2, _, J, q, ⟨fun δ' b' σ' R' H' J' ⟨m', h1, h2⟩ => ⟨m', h1, δ', b', R', J', h2⟩, o.rt, o.ex⟩⟩
    | false =>
      rw [if_neg Bool.false_ne_true] at q ⊢
      exact o.nx δ1 b2 σ1 R2 H2 J q
theorem ER.rebase {K : PySem.W.Frag} {bc : Addr} {δ : Env} {b : Ob} {σ : L2.St} {R H : Hp} (I : ER K bc en δ b σ R H) : ER K bc ⟨en.H0, R, en.b0⟩ δ b σ R H :=
  ⟨I.len, I.sub, ⟨Sub.refl _, fun _ _ _ => rfl, I.stp.dom, I.stp.out, I.stp.bo⟩, I.sl, I.own, I.dis, I.bd⟩
theorem ER.unbase {K : PySem.W.Frag} {bc : Addr} {δ δ1 : Env} {b b1 : Ob} {σ σ1 : L2.St} {R H R1 H1 : Hp} (I : ER K bc en δ1 b1 σ1 R1 H1) (J : ER K bc ⟨en.H0, R1, en.b0⟩ δ b σ R H) : ER K bc en δ b σ R H :=
  ⟨J.len, J.sub, ⟨I.stp.rr.trans J.stp.rr, fun q o e => (J.stp.old q o e).trans (I.stp.old q o e), J.stp.dom, J.stp.out, J.stp.bo⟩, J.sl, J.own, J.dis, J.bd⟩
theorem RetR.unbase {K : PySem.W.Frag} {δ1 : Env} {b1 : Ob} {σ1 : L2.St} {R1 H1 : Hp} (I : ER K S.bc en δ1 b1 σ1 R1 H1) {d : D} {b : Ob} {v : V} {R H : Hp} (r : RetR K S ⟨en.H0, R1, en.b0⟩ ow d b v R H) : RetR K S en ow d b v R H := by
  unfold RetR at r ⊢
  split
  · rename_i h
    rw [if_pos h] at r
    obtain ⟨ds, e, J⟩ := r
    exact ⟨ds, e, I.unbase J⟩
  · rename_i h
    rw [if_neg h] at r
    exact I.unbase r
theorem pssEx {ys : List Stmt} {t : En → TS} (h : ∀ en, PSs X ys (t en)) : PSs X ys (fun D σ H => ∃ en, t en D σ H) := ⟨fun pins s σ H D I ⟨en, hw⟩ => (h en).run pins s σ H D I hw⟩
theorem gS_forr (C : CS S N sc X W lv) {tg : Tg} {src : Src} {t : Sms} {ys : List Stmt} (hi : PI X z y (GI X.K S en W src)) (hg : PG X z (gTg X.K tg)) (hs : ∀ x, foldedSetIterable y X.env x = pure x) (ht : ∀ en, PSs X ys (GB X.K S en W ow t)) : PS X (.For z y ys [] pos) (GS X.K S en W ow (.forr tg src t)) :=
  psImp (ps_for C.pa C.calm hi hg (pssEx ht) hs) fun D σ H ⟨δ, b, R, k, I, w, o⟩ => by
    refine ⟨δ, b, R, _, _, I, w, fun xs b1 J R1 H1 J1 st1 wk q => ?_, o.eok⟩
    refine ⟨fun i m σ H => ∃ δ b R, ER X.K S.bc en δ b σ R H ∧ Sub R1 R ∧ i + m = xs.length ∧ wfor (fun x δ b R => binds tg x δ fun δ' => wB S.G t { k with nx := R } δ' b) (xs.drop i) δ b k.nx, ⟨xs.length, δ, b1, R1, J1, Sub.refl _, by omega, q⟩, fun i m σ2 H2 ⟨δ2, b2, R2, I2, s2, hm, w2⟩ => ?_⟩
    cases hd : xs[i]? with
    | none =>
      have hl : xs.length ≤ i := List.getElem?_eq_none_iff.mp hd
      have e : i = xs.length := by omega
      rw [List.drop_eq_nil_of_le hl] at w2
      refine .inl ⟨?_, o.nx δ2 b2 σ2 R2 H2 I2 w2⟩
      rw [e]
      exact wk.stop R2 H2 s2 I2.sub trivial
    | some d =>
      obtain ⟨hl, he⟩ := List.getElem?_eq_some_iff.mp hd
      rw [List.drop_eq_getElem_cons hl, he] at w2
      obtain ⟨g1, g2⟩ := wk.go i R2 H2 d s2 I2.sub trivial hd
      refine .inr ⟨g1, fun σ' H' => ∃ m', m' < m ∧ ∃ δ b R, ER X.K S.bc en δ b σ' R H' ∧ Sub R1 R ∧ (i + 1) + m' = xs.length ∧ wfor (fun x δ b R => binds tg x δ fun δ' => wB S.G t { k with nx := R } δ' b) (xs.drop (i + 1)) δ b k.nx, fun _ _ h => h, fun x H' yl => ?_⟩
      obtain ⟨R', gr, rx⟩ := g2 x H' yl
      have I3 := I2.grow gr
      have w2' : binds tg d δ2 fun δ' => wB S.G t { k with nx := fun δ' b' => wfor (fun x δ b R => binds tg x δ fun δ' => wB S.G t { k with nx := R } δ' b) (xs.drop (i + 1)) δ' b' k.nx } δ' b2 := w2
      refine tg_take I3 (fun _ _ => rfl) rx w2' fun σ3 δ3 u v eσ I4 w3 => ?_
      refine ⟨⟨en.H0, R', en.b0⟩, δ3, b2, R', _, I4.rebase, w3, ⟨fun δ' b' σ' R4 H4 J' h2 => ?_, fun d' b' v' R4 H4 r => o.rt d' b' v' R4 H4 (r.unbase I4), fun c δ' σ' R4 H4 hh J' => o.ex c δ' σ' R4 H4 hh (I4.unbase J')⟩⟩
      exact ⟨xs.length - (i + 1), by omega, δ', b', R4, I4.unbase J', (s2.trans gr.rr).trans J'.stp.rr, by omega, h2⟩
end
end LK

/-! Statements: own lists. -/
namespace LK
open PySem PySem.Spec PyProof.Rows L2
section
variable {S : Sy} {en : En} {N : List Str} {sc : Scope} {X : Cx} {W : WX} {lv : Nat} {ow : Bool} {y z o : Expr} {e a c : Ex} {pos p2 : Pos}
theorem gS_app (C : CS S N sc X W lv) {i : Nat} {ap cp : Pos} (h : chkV N sc i y = true) (hl : (ap.endLine == cp.line) = true) (hz : ordX z = true) (he : PE X z (GE X.K S en W e)) : PS X (.Expr (.Call (.Attribute y "append" ap) [z] [] cp) pos) (GS X.K S en W ow (.app i e)) := by
  have hbase : ∀ whole, attributeBase y "append" X.env whole = whole := fun whole => by
    obtain ⟨s, q, rfl⟩ := chkV_inv h
    rfl
  have hs := star_of hz [] X.env
  refine psImp (ps_expr (pe_bm PySem.F.plainAttrs_list PySem.F.slot_list_append PySem.F.type_list_append mt_append (pe_slot C.toCK h) (pa_cons he pa_nil hs) (hbase _) (by rw [hs]; rfl) hl hs rfl)) fun D σ H ⟨δ, b, R, k, I, w, o⟩ => ?_
  have w' : (match gt δ i with
    | .ow ds => wE S.G e δ b (fun d b1 => ds.length < 1000000 ∧ k.nx (st δ i (.ow (ds ++ [d]))) b1) (fun c => k.ex c δ)
    | _ => False) := w
  cases hg : gt δ i with
  | no => rw [hg] at w'; exact w'.elim
  | vl _ => rw [hg] at w'; exact w'.elim
  | ow ds =>
    rw [hg] at w'
    obtain ⟨p, xs, h1, oa, h2, h3, h4⟩ := I.owl hg
    refine ⟨_, h1, .inl ⟨rfl, _, SqL.of h2⟩, δ, b, R, _, _, I, w', fun d b1 v R1 H1 J st r q => ?_, o.eok⟩
    obtain ⟨p', xs', e1, oa', e2, e3, _⟩ := J.owl hg
    rw [h1] at e1
    cases e1
    exact ⟨p, xs', v, rfl, rfl, e2, big_lt (by rw [e3.length]; exact q.1), o.nx _ b1 σ R1 _ (J.turn oa' (e3.append (Rps.one r))) q.2⟩
theorem gS_ext (C : CS S N sc X W lv) {i : Nat} {ap cp : Pos} (h : chkV N sc i y = true) (hl : (ap.endLine == cp.line) = true) (hz : ordX z = true) (he : PE X z (GE X.K S en W e)) : PS X (.Expr (.Call (.Attribute y "extend" ap) [z] [] cp) pos) (GS X.K S en W ow (.ext i e)) := by
  have hbase : ∀ whole, attributeBase y "extend" X.env whole = whole := fun whole => by
    obtain ⟨s, q, rfl⟩ := chkV_inv h
    rfl
  have hs := star_of hz [] X.env
  refine psImp (ps_expr (pe_bm PySem.F.plainAttrs_list PySem.F.slot_list_extend PySem.F.type_list_extend mt_extend (pe_slot C.toCK h) (pa_cons he pa_nil hs) (hbase _) (by rw [hs]; rfl) hl hs rfl)) fun D σ H ⟨δ, b, R, k, I, w, o⟩ => ?_
  have w' : (match gt δ i with
    | .ow ds => wE S.G e δ b (fun d b1 => match d with
      | .lst es => ds.length + es.length ≤ 1000000 ∧ k.nx (st δ i (.ow (ds ++ es))) b1
      | _ => False) (fun c => k.ex c δ)
    | _ => False) := w
  cases hg : gt δ i with
  | no => rw [hg] at w'; exact w'.elim
  | vl _ => rw [hg] at w'; exact w'.elim
  | ow ds =>
    rw [hg] at w'
    obtain ⟨p, xs, h1, oa, h2, h3, h4⟩ := I.owl hg
    refine ⟨_, h1, .inl ⟨rfl, _, SqL.of h2⟩, δ, b, R, _, _, I, w', fun d b1 v R1 H1 J st r q => ?_, o.eok⟩
    cases d <;> first | exact q.elim | skip
    obtain ⟨p', xs', e1, oa', e2, e3, _⟩ := J.owl hg
    rw [h1] at e1
    cases e1
    cases r with
    | @lst pb zs es r1 r2 => exact ⟨p, pb, xs', zs, rfl, rfl, e2, J.sub _ _ r1, big_ok (by rw [e3.length, r2.length]; exact q.1), o.nx _ b1 σ R1 _ (J.turn oa' (e3.append r2)) q.2⟩
theorem gS_seti (C : CS S N sc X W lv) {i : Nat} {q1 : Expr} (h : chkV N sc i o = true) (hz : ordX q1 = true) (hk : PE X q1 (GE X.K S en W a)) (he : PE X z (GE X.K S en W e)) : PS X (.Assign [.Subscript o q1 p2] z pos) (GS X.K S en W ow (.seti i a e)) := by
  refine psImp (ps_asg he (pg_sub (pe_slot C.toCK h) hk set_list (by intro _; cases q1 <;> first | rfl | exact Bool.noConfusion hz)) (by cases z <;> rfl) (by cases z <;> rfl) rfl) fun D σ H ⟨δ, b, R, k, I, w, o⟩ => ?_
  refine ⟨δ, b, R, _, _, I, w, fun d b1 v R1 H1 J st r q => ?_, o.eok⟩
  have q' : (match gt δ i with
    | .ow ds => wE S.G a δ b1 (fun x b2 => match x with
      | .int j => ∃ m, L2.ixN ds.length j = some m ∧ k.nx (LK.st δ i (.ow (ds.set m d))) b2
      | _ => False) (fun c => k.ex c δ)
    | _ => False) := q
  cases hg : gt δ i with
  | no => rw [hg] at q'; exact q'.elim
  | vl _ => rw [hg] at q'; exact q'.elim
  | ow ds =>
    rw [hg] at q'
    obtain ⟨p, xs, h1, oa, h2, h3, h4⟩ := J.owl hg
    refine ⟨_, h1, δ, b1, R1, _, _, J, q', fun x b2 v2 R2 H2 J2 st2 r2 q2 => ?_, o.eok⟩
    cases x <;> first | exact q2.elim | skip
    cases r2
    obtain ⟨m, hm, q2⟩ := q2
    obtain ⟨p', xs', e1, oa', e2, e3, _⟩ := J2.owl hg
    rw [h1] at e1
    cases e1
    exact ⟨p, xs', _, m, rfl, rfl, e2, by rw [e3.length]; exact hm, o.nx _ b2 σ R2 _ (J2.turn oa' (Rps.set (r.mono st2.st.rr) m e3)) q2⟩
end
end LK

/-! Statements: try. -/
namespace LK
open PySem PySem.Spec PyProof.Rows L2
theorem pssExP {X : Cx} {α : Type} {ys : List Stmt} {t : α → TS} (h : ∀ a, PSs X ys (t a)) : PSs X ys (fun D σ H => ∃ a, t a D σ H) := ⟨fun pins s σ H D I ⟨a, hw⟩ => (h a).run pins s σ H D I hw⟩
theorem pssAnd {X : Cx} {p : Prop} {ys : List Stmt} {t : TS} (h : p → PSs X ys t) : PSs X ys (fun D σ H => p ∧ t D σ H) := ⟨fun pins s σ H D I ⟨a, hw⟩ => (h a).run pins s σ H D I hw⟩
theorem peLen {X : Cx} {y : Expr} {t : TE} (h : PE X y t) : PE X y (fun σ H Q => σ.length = X.N.length → t σ H Q) := ⟨fun pins s σ H Q I hw => h.run pins s σ H Q I (hw I.len)⟩
theorem pssLen {X : Cx} {y : List Stmt} {t : TS} (h : PSs X y t) : PSs X y (fun D σ H => σ.length = X.N.length → t D σ H) := ⟨fun pins s σ H Q I hw => h.run pins s σ H Q I (hw I.len)⟩
theorem cst_any {d : D} {x : Expr} (h : chkK d x = true) : ∃ v, (∀ X, PE X x (tC v)) ∧ ∀ K R, Rp K R v d := by
  unfold chkK at h
  split at h
  · split at h
    · exact ⟨.non, fun X => pe_non, fun _ _ => .non⟩
    · rename_i b c
      have e : b = c := by simpa using h
      subst e
      exact ⟨.bl b, fun X => pe_bl, fun _ _ => .bl _⟩
    · rename_i i j
      have e : i = j := by simpa using h
      subst e
      exact ⟨.int i, fun X => pe_int, fun _ _ => .int _⟩
    · rename_i s t
      have e : s = t := by simpa using h
      subst e
      exact ⟨.str s, fun X => pe_str, fun _ _ => .str _⟩
    · cases h
  · cases h
section
variable {S : Sy} {en : En} {N : List Str} {sc : Scope} {X : Cx} {W : WX} {lv : Nat} {ow : Bool} {y z o : Expr} {e a c : Ex} {pos p2 : Pos}
theorem chkK_lc {d : D} {x : Expr} (h : chkK d x = true) (t : Option Expr) (l : Nat) (env : PySem.Env) : swapsWith x t l env = pure false := by
  unfold chkK at h
  split at h
  · rfl
  · cases h
/-- a clause without a name -/
theorem hd_none {ow : Bool} (C : CS S N sc X W lv) {h : Hd} {ss : List Stmt} (hc : chkHd N sc h none ss = true) : ∃ b₀ suite ts, ss = b₀ :: suite ∧ (∀ (A : Addr) (pn : List (Addr × Obj)), PSs (X.suite A pn) ss ts) ∧
    ∀ {en : En} {k : Kt} {D : Ends} {δ : Env} {σ : L2.St} {R H : Hp}, ER X.K S.bc en δ none σ R H → wHd h k δ → KO X.K S en W ow k D → ts D σ H := by
  have hnd : X.N.Nodup := by rw [C.n]; exact C.nd
  cases h with
  | set i d =>
    simp only [chkHd, Option.isNone_none, Bool.true_and] at hc
    split at hc
    · simp only [Bool.and_eq_true] at hc
      obtain ⟨s, py, rfl, hN, hl⟩ := chkL_inv hc.1
      obtain ⟨v, pv, rv⟩ := cst_any hc.2
      refine ⟨_, _, _, rfl, fun A pn => pss_one (ps_set (X := X.suite A pn) hnd (by show X.N[i]? = _; rw [C.n]; exact hN) (C.loc hl) (pv _) (chkK_lc hc.2 _ _ _) (.inl (C.fn s))), fun {en k D δ σ R H} I w ko => ?_⟩
      exact ko.nx _ _ _ R H (I.setV (rv _ _)) w
    · cases hc
  | inc i =>
    simp only [chkHd, Option.isNone_none, Bool.true_and] at hc
    split at hc
    · simp only [Bool.and_eq_true] at hc
      obtain ⟨s, py, rfl, hN, hl⟩ := chkL_inv hc.1
      obtain ⟨s2, py2, rfl⟩ := chkV_inv hc.2
      have hv := hc.2
      simp only [chkV, Bool.and_eq_true, decide_eq_true_eq] at hv
      obtain ⟨d1, d2, _⟩ := okN hv.2
      refine ⟨_, _, _, rfl, fun A pn => pss_one (ps_set (X := X.suite A pn) hnd (by show X.N[i]? = _; rw [C.n]; exact hN) (C.loc hl) (pe_op op_add (pe_var (i := i) (by show X.N[i]? = _; rw [C.n]; exact hv.1.1) (C.vis hv.1.2) d1 d2) pe_int) (by rfl) (.inl (C.fn s))), fun {en k D δ σ R H} I w ko => ?_⟩
      have w' : (match gt δ i with
        | .vl (.int n) => k.nx (LK.st δ i (.vl (.int (n + 1)))) none
        | _ => False) := w
      cases hg : gt δ i with
      | no => rw [hg] at w'; exact w'.elim
      | ow _ => rw [hg] at w'; exact w'.elim
      | vl d =>
        rw [hg] at w'
        cases d <;> first | exact w'.elim | skip
        obtain ⟨v, h1, h2⟩ := I.val hg
        cases h2
        exact ⟨_, h1, _, _, rfl, rfl, ko.nx _ _ _ R H (I.setV (.int _)) w'⟩
    · cases hc
  | incIs e i => simp [chkHd] at hc
  | retIs e => simp [chkHd] at hc
  | rais c =>
    cases ss with
    | nil => simp [chkHd] at hc
    | cons b₀ suite => exact ⟨b₀, suite, fun _ _ _ => False, rfl, fun A pn => ⟨fun pins s σ H D I h => h.elim⟩, fun {en k D δ σ R H} I w ko => w⟩
/-- isinstance(e, ValueError) in a clause's suite -/
theorem pe_isVE (C : CS S N sc X W lv) {A D : Addr} {oe : Obj} {pn : List (Addr × Obj)} {i : Nat} {g u z : Expr} {p : Pos} (cx : ExcC X.K D) (kv : PySem.W.kitOne X.K (.ref D) (.type "ValueError") = some true) (hz : Zc (.ref D) none oe) (hf : ∃ vs, oe.data = .fields vs)
    (hg : glName sc "isinstance" g = true) (hu : chkV N sc i u = true) (hv : glName sc "ValueError" z = true) : PE (X.suite A ((A, oe) :: pn)) (.Call g [u, z] [] p) (fun σ H Q => σ[i]? = some (some (.ref A)) ∧ Q (.bl true) H) := by
  obtain ⟨p0, rfl, g1, g2, g3⟩ := gln C.toCK hg
  obtain ⟨p1, rfl, v1, v2, v3⟩ := gln C.toCK hv
  obtain ⟨s, q, rfl⟩ := chkV_inv hu
  simp only [chkV, Bool.and_eq_true, decide_eq_true_eq] at hu
  obtain ⟨d1, d2, _⟩ := okN hu.2
  refine peImp (pe_callB (call_isE cx hz hf) g1 (blt_none C.toCK (by decide +kernel)) (by decide +kernel) (pa_cons (pe_var (i := i) (by show X.N[i]? = _; rw [C.n]; exact hu.1.1) (C.vis hu.1.2) d1 d2) (pa_cons (pe_bltn (v := .ty "ValueError") v1 (blt_none C.toCK (by decide +kernel)) (by decide +kernel) rfl v3 v2) pa_nil)) g3 g2) fun σ H Q ⟨h1, h2⟩ => ?_
  exact ⟨_, h1, .ty "ValueError", .type "ValueError", true, rfl, fun u r => r, kv, h2⟩
/-- a clause with a name -/
theorem hd_some (C : CS S N sc X W lv) {h : Hd} {n : Str} {ss : List Stmt} (hc : chkHd N sc h (some n) ss = true) (hw : ∀ e, h = .retIs e → ow = false) : ∃ e b₀ suite, ∃ (ts : Addr → Value → Option Addr → TS), (match h with | .incIs e' _ => some e' | .retIs e' => some e' | _ => none) = some e ∧ ss = b₀ :: suite ∧ N[e]? = some n ∧ sc.names.lookup n = some .local ∧
    (∀ (A : Addr) (oe : Obj) (cls : Value) (d : Option Addr) (pn : List (Addr × Obj)), Zc cls d oe → (∃ vs, oe.data = .fields vs) → PSs (X.suite A ((A, oe) :: pn)) ss (ts A cls d)) ∧
    ∀ {en : En} {k : Kt} {D : Ends} {δ : Env} {σ : L2.St} {R H : Hp} {c : Nat} (A : Addr), S.M.hc c = true → ER X.K S.bc en δ none σ R H → wHd h k (st δ e .no) → KO X.K S en W ow k D →
      ts A (.ref (S.ca c)) none { nx := fun σ' H' => D.nx (σ'.set e none) H', rt := D.rt, bk := fun σ' H' => D.bk (σ'.set e none) H', ct := fun σ' H' => D.ct (σ'.set e none) H' } (σ.set e (some (.ref A))) H := by
  have hnd : X.N.Nodup := by rw [C.n]; exact C.nd
  cases h with
  | set i d => simp [chkHd] at hc
  | inc i => simp [chkHd] at hc
  | rais c => simp [chkHd] at hc
  | retIs e =>
    simp only [chkHd] at hc
    split at hc
    · rename_i e0
      cases e0
      simp only [Bool.and_eq_true, decide_eq_true_eq] at hc
      obtain ⟨⟨⟨⟨c1, c2⟩, c3⟩, c4⟩, c5⟩ := hc
      refine ⟨e, _, _, fun A cls d => fun D σ H => ∃ c, (S.M.hc c = true ∧ cls = .ref (S.ca c) ∧ d = none) ∧ (σ.length = X.N.length → σ[e]? = some (some (.ref A)) ∧ D.rt (.bl true) H), rfl, rfl, c1, c2, fun A oe cls d pn hz hf => ?_, fun {en k D δ σ R H c} A hh I w ko => ?_⟩
      · refine pssExP fun c => pssAnd fun ⟨h1, h2, h3⟩ => ?_
        subst h2 h3
        have E := C.fs.ex c h1
        exact pssLen (pss_one (ps_ret (pe_isVE C E.i E.v hz hf c3 c4 c5)))
      · refine ⟨c, ⟨hh, rfl, rfl⟩, fun hl => ⟨?_, ?_⟩⟩
        · rw [List.length_set] at hl
          have h0 : e < N.length := (List.getElem?_eq_some_iff.mp c1).1
          rw [List.getElem?_set_self (by rw [hl, C.n]; exact h0)]
        · refine ko.rt (.bl true) none (.bl true) R H ?_ w
          have hw := hw e rfl
          subst hw
          unfold RetR
          rw [if_neg Bool.false_ne_true]
          exact I.ret (.bl true)
    · cases hc
  | incIs e i =>
    simp only [chkHd] at hc
    split at hc
    · rename_i e0
      cases e0
      simp only [Bool.and_eq_true, decide_eq_true_eq] at hc
      obtain ⟨⟨⟨⟨⟨⟨⟨⟨c1, c2⟩, c3⟩, c4⟩, c5⟩, c6⟩, c7⟩, c8⟩, c9⟩ := hc
      obtain ⟨s, py, rfl, hN, hl⟩ := chkL_inv c4
      obtain ⟨p0, rfl, g1, g2, g3⟩ := gln C.toCK c6
      obtain ⟨s2, py2, rfl⟩ := chkV_inv c5
      simp only [chkV, Bool.and_eq_true, decide_eq_true_eq] at c5
      obtain ⟨d1, d2, _⟩ := okN c5.2
      refine ⟨e, _, _, fun A cls d => fun D σ H => ∃ c, (S.M.hc c = true ∧ cls = .ref (S.ca c) ∧ d = none) ∧ (σ.length = X.N.length → σ[e]? = some (some (.ref A)) ∧ ∃ m, σ[i]? = some (some (.int m)) ∧ D.nx (σ.set i (some (.int (m + 1)))) H), rfl, rfl, c1, c2, fun A oe cls d pn hz hf => ?_, fun {en k D δ σ R H c} A hh I w ko => ?_⟩
      · refine pssExP fun c => pssAnd fun ⟨h1, h2, h3⟩ => ?_
        subst h2 h3
        have E := C.fs.ex c h1
        refine pssLen (pssImp (pss_one (ps_set (X := X.suite A ((A, oe) :: pn)) hnd (by show X.N[i]? = _; rw [C.n]; exact hN) (C.loc hl) (pe_op op_add (pe_var (i := i) (by show X.N[i]? = _; rw [C.n]; exact c5.1.1) (C.vis c5.1.2) d1 d2) (pe_callTy call_int1 g1 (blt_none C.toCK (by decide +kernel)) (by decide +kernel) (pa_cons (pe_isVE C E.i E.v hz hf c7 c8 c9) pa_nil) g3 g2)) (by rfl) (.inl (C.fn s)))) fun D σ H ⟨q1, m, q2, q3⟩ => ?_)
        exact ⟨_, q2, q1, .inr ⟨true, rfl, _, _, rfl, rfl, q3⟩⟩
      · refine ⟨c, ⟨hh, rfl, rfl⟩, fun hl => ⟨?_, ?_⟩⟩
        · rw [List.length_set] at hl
          have h0 : e < N.length := (List.getElem?_eq_some_iff.mp c1).1
          rw [List.getElem?_set_self (by rw [hl, C.n]; exact h0)]
        · have J : ER X.K S.bc en (LK.st δ e .no) none (σ.set e (some (.ref A))) R H := I.setN
          have w' : (match gt (LK.st δ e .no) i with
            | .vl (.int n) => k.nx (LK.st (LK.st (LK.st δ e .no) i (.vl (.int (n + 1)))) e .no) none
            | _ => False) := w
          cases hg : gt (LK.st δ e .no) i with
          | no => rw [hg] at w'; exact w'.elim
          | ow _ => rw [hg] at w'; exact w'.elim
          | vl d =>
            rw [hg] at w'
            cases d <;> first | exact w'.elim | skip
            obtain ⟨v, h1, h2⟩ := J.val hg
            cases h2
            exact ⟨_, h1, ko.nx _ _ _ R H (J.setV (.int _)).setN w'⟩
    · cases hc
/-- several clauses, no names -/
theorem hds_none {ow : Bool} (C : CS S N sc X W lv) : ∀ {hs : List (Nat × Hd)} {xs : List ExceptHandler}, chkHds S.M N sc hs xs = true → (∀ p ∈ hs, (match p.2 with | .retIs _ => False | .incIs _ _ => False | _ => True)) → ∃ l, HdsOk X xs l ∧
    ∀ {en : En} {k : Kt} {D : Ends} {δ : Env} {σ : L2.St} {R H : Hp} {c : Nat}, S.M.hc c = true → ER X.K S.bc en δ none σ R H → wHds c δ k hs → KO X.K S en W ow k D → wMany X.K W D l (.ref (S.ca c)) none σ H
  | [], [], _, _ => ⟨[], .nil, fun {en k D δ σ R H c} hh I w ko => ko.ex c δ σ R H hh I w⟩
  | [], _ :: _, h, _ => by simp [chkHds] at h
  | _ :: _, [], h, _ => by simp [chkHds] at h
  | (d, h) :: hs, .ExceptHandler none _ _ _ :: xs, hc, _ => by simp [chkHds] at hc
  | (d, h) :: hs, .ExceptHandler (some t) nm ss p :: xs, hc, hn => by
    simp only [chkHds, Bool.and_eq_true] at hc
    obtain ⟨⟨⟨c0, c1⟩, c2⟩, c3⟩ := hc
    obtain ⟨l, hl, kl⟩ := hds_none (ow := ow) C c3 fun p hp => hn p (List.mem_cons_of_mem _ hp)
    obtain ⟨p0, rfl, g1, g2, g3⟩ := gln C.toCK c1
    have E := C.fs.ex d c0
    have hnm : nm = none := by
      have h0 := hn (d, h) List.mem_cons_self
      cases h <;> first | exact h0.elim | skip
      all_goals
        simp only [chkHd, Bool.and_eq_true] at c2
        cases nm with
        | none => rfl
        | some _ => simp at c2
    subst hnm
    obtain ⟨b₀, suite, ts, rfl, q1, q2⟩ := hd_none (ow := ow) C c2
    refine ⟨(.ref (S.ca d), fun _ _ _ => ts) :: l, .cons ⟨g1, g2, .inl E.g⟩ (fun A oe cls dd pn _ _ => q1 A _) hl, fun {en k D δ σ R H c} hh I w ko => ?_⟩
    refine ⟨subC c d, C.fs.em c d hh c0, fun e A _ => ?_, fun e => ?_⟩
    · have h0 := hn (d, h) List.mem_cons_self
      unfold wHds at w
      rw [if_pos e] at w
      cases h <;> first | exact h0.elim | exact q2 I w ko
    · unfold wHds at w
      rw [e, if_neg Bool.false_ne_true] at w
      exact kl hh I w ko
/-- try with clauses that have no names -/
theorem gS_tri (C : CS S N sc X W lv) {t : Sms} {ys : List Stmt} {hs : List (Nat × Hd)} {x : ExceptHandler} {xs : List ExceptHandler} (hc : chkHds S.M N sc hs (x :: xs) = true) (hn : ∀ p ∈ hs, (match p.2 with | .retIs _ => False | .incIs _ _ => False | _ => True))
    (ht : ∀ {X : Cx} {W : WX}, CS S N sc X W lv → PSs X ys (GB X.K S en W ow t)) : PS X (.Try ys (x :: xs) [] [] pos) (GS X.K S en W ow (.tri t hs)) := by
  obtain ⟨l, hl, kl⟩ := hds_none (ow := ow) C hc hn
  refine psImp (ps_try_many C.stk C.fr C.tk (tb := fun W => GB X.K S en W ow t) (fun W' pn xe tk pa => ht (X := X.tr pn xe) { fs := C.fs, calm := C.calm, n := C.n, nd := C.nd, sc := C.sc, tk := tk, room := C.room, fn := C.fn, stk := C.stk, fr := C.fr, pa := pa, kind := C.kind }) hl) fun D σ H ⟨δ, b, R, k, I, w, o⟩ => ?_
  exact ⟨δ, b, R, _, I, w, ⟨o.nx, o.rt, fun c δ' σ' R' H' hh I' w' => kl hh I' w' o⟩⟩
/-- try with one clause that has a name -/
theorem gS_triAs (C : CS S N sc X W lv) {t : Sms} {ys : List Stmt} {d : Nat} {h : Hd} {x : ExceptHandler} (hc : chkHds S.M N sc [(d, h)] [x] = true) (hn : (match h with | .retIs _ => True | .incIs _ _ => True | _ => False)) (hw : ∀ e, h = .retIs e → ow = false)
    (ht : ∀ {X : Cx} {W : WX}, CS S N sc X W lv → PSs X ys (GB X.K S en W ow t)) : PS X (.Try ys [x] [] [] pos) (GS X.K S en W ow (.tri t [(d, h)])) := by
  obtain ⟨ty, nm, ss, p⟩ := x
  cases ty with
  | none => simp [chkHds] at hc
  | some ty =>
    simp only [chkHds, Bool.and_eq_true, and_true] at hc
    obtain ⟨⟨c0, c1⟩, c2⟩ := hc
    obtain ⟨p0, rfl, g1, g2, g3⟩ := gln C.toCK c1
    have E := C.fs.ex d c0
    cases nm with
    | none => cases h <;> first | exact hn.elim | simp [chkHd] at c2
    | some n =>
      obtain ⟨e, b₀, suite, ts, he, rfl, n1, n2, q1, q2⟩ := hd_some (ow := ow) (W := W) C c2 hw
      refine psImp (ps_try_as C.stk C.fr (by rw [C.n]; exact C.nd) (by show X.N[e]? = _; rw [C.n]; exact n1) (by show X.env.scope.names.lookup n = _; rw [C.sc]; exact n2) ⟨g1, g2, .inl E.g⟩ C.tk (tb := fun W => GB X.K S en W ow t) (fun W' pn xe tk pa => ht (X := X.tr pn xe) { fs := C.fs, calm := C.calm, n := C.n, nd := C.nd, sc := C.sc, tk := tk, room := C.room, fn := C.fn, stk := C.stk, fr := C.fr, pa := pa, kind := C.kind }) q1) fun D σ H ⟨δ, b, R, k, I, w, o⟩ => ?_
      refine ⟨δ, b, R, _, I, w, ⟨o.nx, o.rt, fun c δ' σ' R' H' hh I' w' => ?_⟩⟩
      refine ⟨subC c d, C.fs.em c d hh c0, fun e1 A _ => ?_, fun e1 => ?_⟩
      · refine q2 A hh I' ?_ o
        unfold wHds at w'
        rw [if_pos e1] at w'
        cases h <;> first | exact hn.elim | (cases he; exact w')
      · unfold wHds at w'
        rw [e1, if_neg Bool.false_ne_true] at w'
        exact o.ex c δ' σ' R' H' hh I' w'
end
end LK

/-! Statements: the object. -/
namespace LK
open PySem PySem.Spec PyProof.Rows L2
section
variable {K : PySem.W.Frag} {bc : Addr} {en : En} {δ : Env} {b : Ob} {σ : L2.St} {R H : Hp} {p : Addr} {B B' : Bd} {a a' : BdA}
/-- what the object may turn was not there at the entry, or was the object's -/
theorem ER.bo0 (I : ER K bc en δ b σ R H) {q : Addr} (h : Bo bc b H q) {o : HO} (e : en.H0 q = some o) : Bo bc en.b0 en.H0 q := by
  rcases I.stp.bo q h with z | z
  · exact z
  · rw [e] at z; cases z
/-- the object, or a list of its own, is written: q, what is new of the object's, is new since the entry -/
theorem ER.wr (I : ER K bc en δ (some (p, B)) σ R H) (r : BdR K bc R H p B a) {w : Addr} {o : HO} (hw : w ∈ a.own p B.ro) (r' : BdR K bc R (upd H w o) p B' a')
    (hn : ∀ q ∈ a'.own p B'.ro, q ∈ a.own p B.ro ∨ (en.H0 q = none ∧ ∀ i, ¬ OwnAt δ σ i q)) : ER K bc en δ (some (p, B')) σ R (upd H w o) := by
  have bw : Bo bc (some (p, B)) H w := (Bo.iff r).mpr hw
  obtain ⟨rw0, nw, ⟨u, hu⟩⟩ := I.bo_no bw
  refine ⟨I.len, fun c u e => ?_, ⟨I.stp.rr, I.stp.old, fun c u e => ?_, fun c u e n => ?_, fun c z => ?_⟩, fun j u e => ?_, I.own, I.dis, fun p1 B1 e => ?_⟩
  · rw [upd_ne (ne_of_none e rw0)]
    exact I.sub c u e
  · by_cases hc : c = w
    · subst hc
      exact ⟨_, upd_same⟩
    · rw [upd_ne hc]
      exact I.stp.dom c u e
  · by_cases hc : c = w
    · subst hc
      exact absurd (I.bo0 bw e) n
    · rw [upd_ne hc]
      exact I.stp.out c u e n
  · rw [Bo.iff r'] at z
    rcases hn c z with h | h
    · exact I.stp.bo c ((Bo.iff r).mpr h)
    · exact .inr h.1
  · have h := I.sl j u e
    cases hg : gt δ j with
    | no => exact .no
    | vl d =>
      rw [hg] at h
      cases h with
      | vl r => exact .vl r
    | ow fs =>
      rw [hg] at h
      cases h with
      | ow h1 h2 h3 =>
        refine .ow ?_ h2 h3
        rw [upd_ne]
        · exact h1
        · rintro rfl
          exact nw j ⟨fs, hg, e⟩
  · cases e
    refine ⟨a', r', fun i q o hq => ?_⟩
    rcases hn q hq with h | h
    · obtain ⟨a2, r2, n2⟩ := I.bd p B rfl
      have e2 := bdFs_inj (Option.some.inj (r2.ins.symm.trans r.ins))
      subst e2
      exact n2 i q o h
    · exact h.2 i o
theorem BdR.np (r : BdR K bc R H p B a) : p ≠ a.ph ∧ p ≠ a.pt ∧ p ≠ a.pr := by
  obtain ⟨x1, h1, _⟩ := r.hd
  obtain ⟨x2, h2, _⟩ := r.tl
  obtain ⟨x3, h3, _⟩ := r.rw
  have h0 := r.ins
  refine ⟨fun e => ?_, fun e => ?_, fun e => ?_⟩
  · rw [e, h1] at h0; cases h0
  · rw [e, h2] at h0; cases h0
  · rw [e, h3] at h0; cases h0
theorem BdR.in_ (r : BdR K bc R H p B a) : p ∈ a.own p B.ro ∧ a.ph ∈ a.own p B.ro ∧ a.pt ∈ a.own p B.ro ∧ (B.ro = true → a.pr ∈ a.own p B.ro) := by
  unfold BdA.own
  cases B.ro <;> simp
theorem BdR.df (r : BdR K bc R H p B a) : a.ph ≠ a.pt ∧ a.ph ≠ a.pr ∧ a.pt ≠ a.pr := by
  have nd := r.nd
  cases hro : B.ro with
  | true =>
    rw [hro] at nd
    simp only [BdA.own, if_pos rfl] at nd
    simp only [if_true, List.nodup_cons, List.mem_cons, List.not_mem_nil, or_false, not_or] at nd
    exact ⟨nd.2.1.1, nd.2.1.2, nd.2.2.1⟩
  | false =>
    rw [hro] at nd
    simp only [BdA.own] at nd
    simp only [Bool.false_eq_true, if_false, List.nodup_cons, List.mem_cons, List.not_mem_nil, or_false, not_or] at nd
    obtain ⟨xs, h⟩ := r.fz hro
    have n1 := r.nr a.ph r.in_.2.1
    have n2 := r.nr a.pt r.in_.2.2.1
    exact ⟨nd.2.1, (ne_of_none h n1).symm, (ne_of_none h n2).symm⟩
/-- a list of the object's is written -/
theorem BdR.wHeads (r : BdR K bc R H p B a) {xs : List V} {ds : List D} (q : Rps K R xs ds) : BdR K bc R (upd H a.ph (.lst xs)) p { B with heads := ds } a := by
  obtain ⟨n1, n2, n3⟩ := r.np
  obtain ⟨d1, d2, d3⟩ := r.df
  obtain ⟨x2, h2, q2⟩ := r.tl
  obtain ⟨x3, h3, q3⟩ := r.rw
  exact ⟨by rw [upd_ne n1]; exact r.ins, ⟨xs, upd_same, q⟩, ⟨x2, by rw [upd_ne d1.symm]; exact h2, q2⟩, ⟨x3, by rw [upd_ne d2.symm]; exact h3, q3⟩, r.gl, r.fz, r.nr, r.nd⟩
theorem BdR.wTails (r : BdR K bc R H p B a) {xs : List V} {ds : List D} (q : Rps K R xs ds) : BdR K bc R (upd H a.pt (.lst xs)) p { B with tails := ds } a := by
  obtain ⟨n1, n2, n3⟩ := r.np
  obtain ⟨d1, d2, d3⟩ := r.df
  obtain ⟨x2, h2, q2⟩ := r.hd
  obtain ⟨x3, h3, q3⟩ := r.rw
  exact ⟨by rw [upd_ne n2]; exact r.ins, ⟨x2, by rw [upd_ne d1]; exact h2, q2⟩, ⟨xs, upd_same, q⟩, ⟨x3, by rw [upd_ne d3.symm]; exact h3, q3⟩, r.gl, r.fz, r.nr, r.nd⟩
theorem BdR.wRows (r : BdR K bc R H p B a) {xs : List V} {ds : List D} (q : Rps K R xs ds) : BdR K bc R (upd H a.pr (.lst xs)) p { B with rows := ds } a := by
  obtain ⟨n1, n2, n3⟩ := r.np
  obtain ⟨d1, d2, d3⟩ := r.df
  obtain ⟨x2, h2, q2⟩ := r.hd
  obtain ⟨x3, h3, q3⟩ := r.tl
  exact ⟨by rw [upd_ne n3]; exact r.ins, ⟨x2, by rw [upd_ne d2]; exact h2, q2⟩, ⟨x3, by rw [upd_ne d3]; exact h3, q3⟩, ⟨xs, upd_same, q⟩, r.gl, r.fz, r.nr, r.nd⟩
/-- a field is set to a list of nobody's -/
theorem BdR.sHeads (r : BdR K bc R H p B a) {q : Addr} {xs : List V} {ds : List D} (hq : H q = some (.lst xs)) (rq : Rps K R xs ds) (nr : R q = none) (nb : q ∉ a.own p B.ro) : BdR K bc R (upd H p (.ins bc a.dx (bdFs { a with ph := q }))) p { B with heads := ds } { a with ph := q } := by
  obtain ⟨n1, n2, n3⟩ := r.np
  obtain ⟨x2, h2, q2⟩ := r.tl
  obtain ⟨x3, h3, q3⟩ := r.rw
  have nqp : q ≠ p := fun e => nb (by rw [e]; exact r.in_.1)
  refine ⟨upd_same, ⟨xs, by rw [upd_ne nqp]; exact hq, rq⟩, ⟨x2, by rw [upd_ne n2.symm]; exact h2, q2⟩, ⟨x3, by rw [upd_ne n3.symm]; exact h3, q3⟩, r.gl, r.fz, fun c hc => ?_, ?_⟩
  · have h := r.nr
    unfold BdA.own at h hc
    dsimp only at hc
    cases hro : B.ro <;> rw [hro] at h hc <;> simp only [Bool.false_eq_true, if_false, if_true, List.mem_cons, List.not_mem_nil, or_false] at h hc
    · rcases hc with rfl | rfl | rfl
      · exact h _ (.inl rfl)
      · exact nr
      · exact h _ (.inr (.inr rfl))
    · rcases hc with rfl | rfl | rfl | rfl
      · exact h _ (.inl rfl)
      · exact nr
      · exact h _ (.inr (.inr (.inl rfl)))
      · exact h _ (.inr (.inr (.inr rfl)))
  · have h := r.nd
    unfold BdA.own at h nb ⊢
    dsimp only
    cases hro : B.ro <;> rw [hro] at h nb <;> simp only [Bool.false_eq_true, if_false, if_true, List.nodup_cons, List.mem_cons, List.not_mem_nil, or_false, not_or] at h nb ⊢
    · exact ⟨⟨Ne.symm nb.1, h.1.2⟩, nb.2.2, by simp⟩
    · exact ⟨⟨Ne.symm nb.1, h.1.2⟩, ⟨nb.2.2.1, nb.2.2.2⟩, h.2.2⟩
theorem BdR.sTails (r : BdR K bc R H p B a) {q : Addr} {xs : List V} {ds : List D} (hq : H q = some (.lst xs)) (rq : Rps K R xs ds) (nr : R q = none) (nb : q ∉ a.own p B.ro) : BdR K bc R (upd H p (.ins bc a.dx (bdFs { a with pt := q }))) p { B with tails := ds } { a with pt := q } := by
  obtain ⟨n1, n2, n3⟩ := r.np
  obtain ⟨x2, h2, q2⟩ := r.hd
  obtain ⟨x3, h3, q3⟩ := r.rw
  have nqp : q ≠ p := fun e => nb (by rw [e]; exact r.in_.1)
  refine ⟨upd_same, ⟨x2, by rw [upd_ne n1.symm]; exact h2, q2⟩, ⟨xs, by rw [upd_ne nqp]; exact hq, rq⟩, ⟨x3, by rw [upd_ne n3.symm]; exact h3, q3⟩, r.gl, r.fz, fun c hc => ?_, ?_⟩
  · have h := r.nr
    unfold BdA.own at h hc
    dsimp only at hc
    cases hro : B.ro <;> rw [hro] at h hc <;> simp only [Bool.false_eq_true, if_false, if_true, List.mem_cons, List.not_mem_nil, or_false] at h hc
    · rcases hc with rfl | rfl | rfl
      · exact h _ (.inl rfl)
      · exact h _ (.inr (.inl rfl))
      · exact nr
    · rcases hc with rfl | rfl | rfl | rfl
      · exact h _ (.inl rfl)
      · exact h _ (.inr (.inl rfl))
      · exact nr
      · exact h _ (.inr (.inr (.inr rfl)))
  · have h := r.nd
    unfold BdA.own at h nb ⊢
    dsimp only
    cases hro : B.ro <;> rw [hro] at h nb <;> simp only [Bool.false_eq_true, if_false, if_true, List.nodup_cons, List.mem_cons, List.not_mem_nil, or_false, not_or] at h nb ⊢
    · exact ⟨⟨h.1.1, Ne.symm nb.1⟩, Ne.symm nb.2.1, by simp⟩
    · exact ⟨⟨h.1.1, Ne.symm nb.1, h.1.2.2⟩, ⟨Ne.symm nb.2.1, h.2.1.2⟩, nb.2.2.2, by simp⟩
theorem BdR.sRows (r : BdR K bc R H p B a) {q : Addr} {xs : List V} {ds : List D} (hq : H q = some (.lst xs)) (rq : Rps K R xs ds) (nr : R q = none) (nb : q ∉ a.own p B.ro) : BdR K bc R (upd H p (.ins bc a.dx (bdFs { a with pr := q }))) p { B with rows := ds, ro := true } { a with pr := q } := by
  obtain ⟨n1, n2, n3⟩ := r.np
  obtain ⟨x2, h2, q2⟩ := r.hd
  obtain ⟨x3, h3, q3⟩ := r.tl
  have nqp : q ≠ p := fun e => nb (by rw [e]; exact r.in_.1)
  refine ⟨upd_same, ⟨x2, by rw [upd_ne n1.symm]; exact h2, q2⟩, ⟨x3, by rw [upd_ne n2.symm]; exact h3, q3⟩, ⟨xs, by rw [upd_ne nqp]; exact hq, rq⟩, r.gl, (fun e => by cases e), fun c hc => ?_, ?_⟩
  · have h := r.nr
    simp only [BdA.own, if_true, List.mem_cons, List.not_mem_nil, or_false] at hc
    obtain ⟨i1, i2, i3, _⟩ := r.in_
    rcases hc with rfl | rfl | rfl | rfl
    · exact h _ i1
    · exact h _ i2
    · exact h _ i3
    · exact nr
  · obtain ⟨d1, d2, d3⟩ := r.df
    obtain ⟨i1, i2, i3, _⟩ := r.in_
    simp only [BdA.own, if_true, List.nodup_cons, List.mem_cons, List.not_mem_nil, or_false, not_or]
    exact ⟨⟨n1, n2, nqp.symm⟩, ⟨d1, fun e => nb (by rw [← e]; exact i2)⟩, fun e => nb (by rw [← e]; exact i3), by simp⟩
/-- the goal is set to a kept list -/
theorem BdR.sGoal (r : BdR K bc R H p B a) {q : Addr} {xs : List V} {ds : List D} (hq : R q = some (.lst xs)) (rq : Rps K R xs ds) : BdR K bc R (upd H p (.ins bc a.dx (bdFs { a with pg := q }))) p { B with goal := ds } { a with pg := q } := by
  obtain ⟨n1, n2, n3⟩ := r.np
  obtain ⟨x1, h1, q1⟩ := r.hd
  obtain ⟨x2, h2, q2⟩ := r.tl
  obtain ⟨x3, h3, q3⟩ := r.rw
  exact ⟨upd_same, ⟨x1, by rw [upd_ne n1.symm]; exact h1, q1⟩, ⟨x2, by rw [upd_ne n2.symm]; exact h2, q2⟩, ⟨x3, by rw [upd_ne n3.symm]; exact h3, q3⟩, ⟨xs, hq, rq⟩, r.fz, r.nr, r.nd⟩
end
section
variable {S : Sy} {en : En} {N : List Str} {sc : Scope} {X : Cx} {W : WX} {lv : Nat} {ow : Bool} {y z o : Expr} {e a c : Ex} {pos p2 : Pos}
theorem ER.bdA {K : PySem.W.Frag} {bc : Addr} {δ : Env} {σ : L2.St} {R H : Hp} {p : Addr} {B : Bd} (I : ER K bc en δ (some (p, B)) σ R H) {a : BdA} (h : H p = some (.ins bc a.dx (bdFs a))) : BdR K bc R H p B a := by
  obtain ⟨a2, r2, _⟩ := I.bd p B rfl
  have e2 := bdFs_inj (Option.some.inj (r2.ins.symm.trans h))
  subst e2
  exact r2
theorem fld_rd (C : CS S N sc X W lv) {f : Fl} {v : Nat} {x : Expr} (h : chkF S.M N sc f v x = true) {δ : Env} {σ : L2.St} {R H : Hp} {p : Addr} {B : Bd} (I : ER X.K S.bc en δ (some (p, B)) σ R H) (hg : gt δ v = .vl (.brd p)) :
    ∃ a, BdR X.K S.bc R H p B a ∧ ∀ Q : VK, Q (.ref (fadr a f)) H → tFld X.K (tVar v) (flName f) σ H Q := by
  obtain ⟨hbd, _⟩ := chkF_inv h
  have F := C.fs.bd hbd
  obtain ⟨u, h1, h2⟩ := I.val hg
  cases h2
  obtain ⟨a, r, _⟩ := I.bd p B rfl
  exact ⟨a, r, fun Q q => ⟨.ref p, h1, p, S.bc, a.dx, bdFs a, _, rfl, r.ins, F.c, F.n f, fs_look a f, q⟩⟩
theorem gS_fsetix (C : CS S N sc X W lv) {f : Fl} {v : Nat} {q1 : Expr} (h : chkF S.M N sc f v o = true) (hq : quiet a = true) (hz : ordX q1 = true) (hk : PE X q1 (GE X.K S en W a)) (he : PE X z (GE X.K S en W e)) : PS X (.Assign [.Subscript o q1 p2] z pos) (GS X.K S en W ow (.fsetix f v a e)) := by
  refine psImp (ps_asg he (pg_sub (pe_field C.toCK h) hk set_list (by intro _; cases q1 <;> first | rfl | exact Bool.noConfusion hz)) (by cases z <;> rfl) (by cases z <;> rfl) rfl) fun D σ H ⟨δ, b, R, k, I, w, ko⟩ => ?_
  refine ⟨δ, b, R, _, _, I, w, fun d b1 u R1 H1 J st r q => ?_, ko.eok⟩
  obtain ⟨p, B, hg, hb, q⟩ := theB_inv q
  subst hb
  obtain ⟨a', r1, h3⟩ := fld_rd C h J hg
  refine h3 _ ⟨δ, _, R1, _, _, J, q, fun x b2 v2 R2 H2 J2 st2 r2 q2 => ?_, ko.eok⟩
  have eb := st2.qb hq
  subst eb
  have hs := st2.qs hq
  have r3 : BdR X.K S.bc R2 H2 p B a' := J2.bdA (hs _ _ r1.ins)
  have rd := r.mono st2.st.rr
  cases f with
  | goal => cases x <;> exact q2.elim
  | heads =>
    cases x <;> first | exact q2.elim | skip
    cases r2
    obtain ⟨m, hm, q2⟩ := q2
    obtain ⟨xs, h4, h5⟩ := r3.hd
    exact ⟨_, xs, _, m, rfl, rfl, h4, by rw [h5.length]; exact hm, ko.nx _ _ σ R2 _ (J2.wr r3 r3.in_.2.1 (r3.wHeads (Rps.set rd m h5)) fun q hq => .inl hq) q2⟩
  | tails =>
    cases x <;> first | exact q2.elim | skip
    cases r2
    obtain ⟨m, hm, q2⟩ := q2
    obtain ⟨xs, h4, h5⟩ := r3.tl
    exact ⟨_, xs, _, m, rfl, rfl, h4, by rw [h5.length]; exact hm, ko.nx _ _ σ R2 _ (J2.wr r3 r3.in_.2.2.1 (r3.wTails (Rps.set rd m h5)) fun q hq => .inl hq) q2⟩
  | rows =>
    cases x <;> first | exact q2.elim | skip
    cases r2
    obtain ⟨m, hro, hm, q2⟩ := q2
    obtain ⟨xs, h4, h5⟩ := r3.rw
    exact ⟨_, xs, _, m, rfl, rfl, h4, by rw [h5.length]; exact hm, ko.nx _ _ σ R2 _ (J2.wr r3 (r3.in_.2.2.2 hro) (r3.wRows (Rps.set rd m h5)) fun q hq => .inl hq) q2⟩
theorem gS_fapp (C : CS S N sc X W lv) {f : Fl} {v : Nat} {ap cp : Pos} (h : chkF S.M N sc f v y = true) (hq : quiet e = true) (hl : (ap.endLine == cp.line) = true) (hz : ordX z = true) (he : PE X z (GE X.K S en W e)) : PS X (.Expr (.Call (.Attribute y "append" ap) [z] [] cp) pos) (GS X.K S en W ow (.fapp f v e)) := by
  have hbase : ∀ whole, attributeBase y "append" X.env whole = whole := fun whole => by
    obtain ⟨_, o, q, rfl, _⟩ := chkF_inv h
    rfl
  have hs := star_of hz [] X.env
  refine psImp (ps_expr (pe_bm PySem.F.plainAttrs_list PySem.F.slot_list_append PySem.F.type_list_append mt_append (pe_field C.toCK h) (pa_cons he pa_nil hs) (hbase _) (by rw [hs]; rfl) hl hs rfl)) fun D σ H ⟨δ, b, R, k, I, w, ko⟩ => ?_
  obtain ⟨p, B, hg, hb, w⟩ := theB_inv w
  subst hb
  obtain ⟨a', r1, h3⟩ := fld_rd C h I hg
  have hl0 : ∃ xs, H (fadr a' f) = some (.lst xs) := by
    obtain ⟨xs, h4, _⟩ := r1.fl I.sub f
    exact ⟨xs, h4⟩
  obtain ⟨xs0, h40⟩ := hl0
  show tFld X.K (tVar v) (flName f) σ H (fun x H1 => tyV X.K "list" x H1 ∧ tCons (GE X.K S en W e) tNil σ H1 fun xs H2 => rAppend x xs H2 fun _ H3 => D.nx σ H3)
  refine h3 _ ⟨.inl ⟨rfl, _, SqL.of h40⟩, δ, _, R, _, _, I, w, fun d b1 u R1 H1 J st r q => ?_, ko.eok⟩
  have eb := st.qb hq
  subst eb
  have r3 : BdR X.K S.bc R1 H1 p B a' := J.bdA (st.qs hq _ _ r1.ins)
  cases f <;> first | exact q.elim | skip
  obtain ⟨xs, h4, h5⟩ := r3.tl
  exact ⟨_, xs, u, rfl, rfl, h4, big_lt (by rw [h5.length]; exact q.1), ko.nx _ _ σ R1 _ (J.wr r3 r3.in_.2.2.1 (r3.wTails (h5.append (Rps.one r))) fun q hq => .inl hq) q.2⟩
/-- o.f = value -/
theorem putF_at (a : BdA) (q : Addr) : putF "heads" (.ref q) (bdFs a) = bdFs { a with ph := q } ∧ putF "tails" (.ref q) (bdFs a) = bdFs { a with pt := q } ∧ putF "rows" (.ref q) (bdFs a) = bdFs { a with pr := q } ∧ putF "goal" (.ref q) (bdFs a) = bdFs { a with pg := q } := ⟨rfl, rfl, rfl, rfl⟩
theorem gS_fsetF (C : CS S N sc X W lv) {f : Fl} {v : Nat} (hbd : S.M.hb = true) (hf : f ≠ .goal) (h : chkV N sc v o = true) (he : PE X z (GF X.K S en W e)) : PS X (.Assign [.Attribute o (flName f) p2] z pos) (GS X.K S en W ow (.fset f v e)) := by
  have F := C.fs.bd hbd
  refine psImp (ps_fld (pe_slot C.toCK h) he (by cases z <;> rfl)) fun D σ H ⟨δ, b, R, k, I, w, ko⟩ => ?_
  refine ⟨δ, b, R, _, _, I, w, fun ds b1 q0 xs R1 H1 J st n nr nb hp r q => ?_, ko.eok⟩
  obtain ⟨p, B, hg, hb, qk⟩ := theB_inv q
  subst hb
  obtain ⟨u, g1, g2⟩ := J.val hg
  cases g2
  obtain ⟨a', r1, n1⟩ := J.bd p B rfl
  have fr := I.freG n st nr nb
  have nb' : q0 ∉ a'.own p B.ro := fun z => nb ((Bo.iff r1).mpr z)
  obtain ⟨e1, e2, e3, e4⟩ := putF_at a' q0
  refine ⟨_, g1, p, S.bc, a'.dx, bdFs a', rfl, r1.ins, F.c, F.n f, (by show 4 < 1000; decide), ?_⟩
  have nw : ∀ {a2 : BdA} {ro : Bool}, (∀ c ∈ a2.own p ro, c ∈ a'.own p B.ro ∨ c = q0) → ∀ c ∈ a2.own p ro, c ∈ a'.own p B.ro ∨ (en.H0 c = none ∧ ∀ i, ¬ OwnAt δ σ i c) := fun hh c hc => by
    rcases hh c hc with z | z
    · exact .inl z
    · subst z
      exact .inr ⟨fr.h0, fr.no⟩
  obtain ⟨i1, i2, i3, i4⟩ := r1.in_
  cases f with
  | goal => exact absurd rfl hf
  | heads =>
    show D.nx σ (upd H1 p (.ins S.bc a'.dx (putF "heads" (.ref q0) (bdFs a'))))
    rw [e1]
    refine ko.nx _ _ σ R1 _ (J.wr r1 i1 (r1.sHeads hp r nr nb') (nw fun c hc => ?_)) qk
    unfold BdA.own at hc ⊢
    cases hro : B.ro <;> rw [hro] at hc <;> simp only [Bool.false_eq_true, if_false, if_true, List.mem_cons, List.not_mem_nil, or_false] at hc ⊢
    · rcases hc with h | h | h <;> simp [h]
    · rcases hc with h | h | h | h <;> simp [h]
  | tails =>
    show D.nx σ (upd H1 p (.ins S.bc a'.dx (putF "tails" (.ref q0) (bdFs a'))))
    rw [e2]
    refine ko.nx _ _ σ R1 _ (J.wr r1 i1 (r1.sTails hp r nr nb') (nw fun c hc => ?_)) qk
    unfold BdA.own at hc ⊢
    cases hro : B.ro <;> rw [hro] at hc <;> simp only [Bool.false_eq_true, if_false, if_true, List.mem_cons, List.not_mem_nil, or_false] at hc ⊢
    · rcases hc with h | h | h <;> simp [h]
    · rcases hc with h | h | h | h <;> simp [h]
  | rows =>
    show D.nx σ (upd H1 p (.ins S.bc a'.dx (putF "rows" (.ref q0) (bdFs a'))))
    rw [e3]
    refine ko.nx _ _ σ R1 _ (J.wr r1 i1 (r1.sRows hp r nr nb') (nw fun c hc => ?_)) qk
    have hc' : c ∈ [p, a'.ph, a'.pt, q0] := hc
    simp only [List.mem_cons, List.not_mem_nil, or_false] at hc'
    rcases hc' with h | h | h | h
    · rw [h]; exact .inl i1
    · rw [h]; exact .inl i2
    · rw [h]; exact .inl i3
    · exact .inr h
theorem gS_fsetG (C : CS S N sc X W lv) {v : Nat} (hbd : S.M.hb = true) (h : chkV N sc v o = true) (he : PE X z (GE X.K S en W e)) : PS X (.Assign [.Attribute o "goal" p2] z pos) (GS X.K S en W ow (.fset .goal v e)) := by
  have F := C.fs.bd hbd
  refine psImp (ps_fld (pe_slot C.toCK h) he (by cases z <;> rfl)) fun D σ H ⟨δ, b, R, k, I, w, ko⟩ => ?_
  refine ⟨δ, b, R, _, _, I, w, fun d b1 u R1 H1 J st r q => ?_, ko.eok⟩
  obtain ⟨p, B, hg, hb, qk⟩ := theB_inv q
  subst hb
  cases d <;> first | exact qk.elim | skip
  obtain ⟨u, g1, g2⟩ := J.val hg
  cases g2
  obtain ⟨a', r1, n1⟩ := J.bd p B rfl
  cases r with
  | @lst q0 xs ds h1 h2 =>
    obtain ⟨e1, e2, e3, e4⟩ := putF_at a' q0
    refine ⟨_, g1, p, S.bc, a'.dx, bdFs a', rfl, r1.ins, F.c, F.n .goal, (by show 4 < 1000; decide), ?_⟩
    rw [e4]
    exact ko.nx _ _ σ R1 _ (J.wr r1 r1.in_.1 (r1.sGoal h1 h2) fun c hc => .inl hc) qk
theorem all_of_any {α : Type} : ∀ {l : List (Bool × α)}, l.any (·.1) = false → l.all (fun x => !x.1) = true
  | [], _ => rfl
  | (t, a) :: l, h => by
    simp only [List.any_cons, Bool.or_eq_false_iff] at h
    simp only [List.all_cons, h.1, Bool.not_false, Bool.true_and]
    exact all_of_any h.2
theorem meth_eval {s : Str} {q : Pos} {nm : Str} {ap cp : Pos} {ys : List Expr} {env : PySem.Env} (hl : (ap.endLine == cp.line) = true) (hp : (backTo cp (starEach ys env)).any (·.1) = false) (hn : ys.length < 30) :
    ∃ pl : Sem Bool, eval (.Call (.Attribute (.Name s q) nm ap) ys [] cp) env = (do
      let ov ← eval (.Name s q) env
      standAt ap.atName
      let (f, first) ← holding [ov] (getMethod ov nm pl)
      callWith cp f first (backTo cp (starEach ys env)) (backToKw cp (keywordEach [] env))) := by
  have hf : methodCallForm (ys.length + ([] : List Keyword).length) (backTo cp (starEach ys env)) (backToKw cp (keywordEach [] env)) = true := by
    unfold methodCallForm
    rw [all_of_any hp]
    have : decide (ys.length + 0 + 0 < 30) = true := decide_eq_true (by omega)
    simpa [backToKw, keywordEach] using hn
  refine ⟨do return (← importBound (.Name s q) env).getD true, ?_⟩
  show (do
    let ov ← attributeBase (.Name s q) nm env (eval (.Name s q) env)
    standAt ap.atName
    methodCall (.Name s q) nm ap cp env ov (ys.length + ([] : List Keyword).length) (backTo cp (starEach ys env)) (backToKw cp (keywordEach [] env))) = _
  have e : ∀ ov, methodCall (.Name s q) nm ap cp env ov (ys.length + ([] : List Keyword).length) (backTo cp (starEach ys env)) (backToKw cp (keywordEach [] env)) = (do
      let (f, first) ← holding [ov] (getMethod ov nm (do return (← importBound (.Name s q) env).getD true))
      callWith cp f first (backTo cp (starEach ys env)) (backToKw cp (keywordEach [] env))) := fun ov => by
    unfold methodCall calleeOf methodCallPos
    rw [hf, hl]
    simp
  simp only [e]
  rfl
/-- o.m(..), told alone -/
theorem gS_meth (C : CS S N sc X W lv) {v f : Nat} {es : Exs} {ys : List Expr} {ap cp : Pos} (hbd : S.M.hb = true) (hm : S.M.hm f = true) (h : chkV N sc v o = true) (hfr : S.G.fr f = false) (hl : (ap.endLine == cp.line) = true) (hn : (y :: ys).length < 30) (ha : PA X (y :: ys) (GEs X.K S en (fun _ _ _ _ => False) es))
    (hs : starEach (y :: ys) X.env = (false, eval y X.env) :: starEach ys X.env) (hp : (backTo cp (starEach (y :: ys) X.env)).any (·.1) = false) (hpl : (backTo cp (starEach ys X.env)).any (·.1) = false) : PS X (.Expr (.Call (.Attribute o (S.M.fn f) ap) (y :: ys) [] cp) pos) (GS X.K S en W ow (.meth v f es)) := by
  have F := C.fs.bd hbd
  obtain ⟨n1, fa, M, FF⟩ := C.fs.mt f hm
  obtain ⟨fd, ps, hb, ok⟩ := FF.ok
  obtain ⟨s, q, rfl⟩ := chkV_inv h
  obtain ⟨pl, ht⟩ := meth_eval (s := s) (q := q) (nm := S.M.fn f) (env := X.env) hl hp hn
  refine psImp (ps_expr (pe_meth (E := E0) (pl := pl) (pe_slot C.toCK h) F.c M ok (C.room.mono (Nat.le_succ _)) hb .nil passL ha hs hpl ht)) fun D σ H ⟨δ, b, R, k, I, w, ko⟩ => ?_
  have w' : (match gt δ v with
    | .vl (.brd p) => (∃ B, b = some (p, B)) ∧ wEs S.G es δ b (fun ds b1 => S.G.sp f (.brd p :: ds) b1 (fun _ b2 => k.nx δ b2) (fun _ => False)) (fun _ => False)
    | _ => False) := w
  cases hg : gt δ v with
  | no => rw [hg] at w'; exact w'.elim
  | ow _ => rw [hg] at w'; exact w'.elim
  | vl d =>
    rw [hg] at w'
    cases d <;> first | exact w'.elim | skip
    rename_i p
    obtain ⟨u, g1, g2⟩ := I.val hg
    cases g2
    obtain ⟨⟨B, rfl⟩, w2⟩ := w'
    obtain ⟨aa, r1, _⟩ := I.bd p B rfl
    refine ⟨_, g1, p, aa.dx, bdFs aa, rfl, r1.ins, n1 aa, δ, _, R, _, _, I, w2, fun ds b1 vs R1 H1 J st r _ q => ?_, fun _ _ _ _ _ z => z⟩
    refine ⟨.brd p :: ds, b1, R1, _, _, J.entry (.cons (.brd p) (by rw [List.append_nil]; exact r)), q, fun d b' u R' H' ou hq => ?_, fun _ _ _ _ _ z => z⟩
    unfold Out at ou
    rw [hfr] at ou
    have o' : ER X.K S.bc ⟨H1, R1, b1⟩ [.vl d] b' [some u] R' H' := by simpa using ou
    obtain ⟨J2, st2⟩ := J.back o'
    exact ko.nx _ _ σ R' H' J2 hq
/-- return Board(..) -/
theorem gS_retB (C : CS S N sc X W lv) {i j : Nat} {f u1 u2 y1 y2 : Expr} {p3 : Pos} (hbd : S.M.hb = true) (hij : i ≠ j) (hf : glName sc S.M.bd f = true) (h1 : chkV N sc i u1 = true) (h2 : chkV N sc j u2 = true) (o1 : ordX y1 = true) (o2 : ordX y2 = true) (g1 : PE X y1 (GE X.K S en W e)) (g2 : PE X y2 (GE X.K S en W c)) :
    PS X (.Return (some (.Call f [u1, u2, y1, y2] [] p3)) pos) (GS X.K S en W false (.retB i j e c)) := by
  obtain ⟨p0, rfl, n1, n2, n3⟩ := gln C.toCK hf
  obtain ⟨F0, F1, F2, fi, fdi, M, hb, ok⟩ := C.fs.bd hbd
  obtain ⟨s1, q1, rfl⟩ := chkV_inv h1
  obtain ⟨s2, q2, rfl⟩ := chkV_inv h2
  have st4 : starEach [y2] X.env = (false, eval y2 X.env) :: starEach [] X.env := star_of o2 [] _
  have st3 : starEach [y1, y2] X.env = (false, eval y1 X.env) :: starEach [y2] X.env := star_of o1 [y2] _
  have hpl : (backTo p3 (starEach [.Name s2 q2, y1, y2] X.env)).any (·.1) = false := by
    have e : starEach [.Name s2 q2, y1, y2] X.env = (false, eval (.Name s2 q2) X.env) :: starEach [y1, y2] X.env := rfl
    rw [e, st3, st4]
    rfl
  refine psImp (ps_ret (pe_make (E := E0) (dvs := []) M ok (C.room.mono (Nat.le_refl _)) n1 F0 hb .nil passL (pa_cons (pe_slot C.toCK h1) (pa_cons (pe_slot C.toCK h2) (pa_cons g1 (pa_cons g2 pa_nil st4) st3))) n2 rfl hpl)) fun D σ H ⟨δ, b, R, k, I, w, ko⟩ => ?_
  have w' : (match gt δ i, gt δ j with
    | .ow hs, .ow ts => wE S.G e δ b (fun d1 b1 => wE S.G c δ b1 (fun d2 b2 => match d1, d2 with
      | .lst rs, .lst g => b2 = none ∧ ∀ p, k.rt (.brd p) (some (p, ⟨hs, ts, rs, false, g⟩))
      | _, _ => False) (fun c => k.ex c δ)) (fun c => k.ex c δ)
    | _, _ => False) := w
  cases hgi : gt δ i with
  | no => rw [hgi] at w'; exact w'.elim
  | vl _ => rw [hgi] at w'; exact w'.elim
  | ow hs =>
    rw [hgi] at w'
    cases hgj : gt δ j with
    | no => rw [hgj] at w'; exact w'.elim
    | vl _ => rw [hgj] at w'; exact w'.elim
    | ow ts =>
      rw [hgj] at w'
      obtain ⟨ph, xh, e1, oh, _⟩ := I.owl hgi
      obtain ⟨pt, xt, e2, ot, _⟩ := I.owl hgj
      refine ⟨_, e1, _, e2, δ, b, R, _, _, I, w', fun d1 b1 v1 R1 H1 J st r1 q => ⟨δ, b1, R1, _, _, J, q, fun d2 b2 v2 R2 H2 J2 st2 r2 q => ?_, ko.eok⟩, ko.eok⟩
      intro x dx hx hdx hne
      have q' : ∃ rs g, d1 = .lst rs ∧ d2 = .lst g ∧ b2 = none ∧ ∀ p, k.rt (.brd p) (some (p, ⟨hs, ts, rs, false, g⟩)) := by
        cases d1 <;> cases d2 <;> first | exact q.elim | exact ⟨_, _, rfl, rfl, q.1, q.2⟩
      obtain ⟨rs, g, rfl, rfl, rfl, kk⟩ := q'
      cases r1 with
      | @lst pr xr _ p1 p2 =>
        cases r2 with
        | @lst pg xg _ p3 p4 =>
          obtain ⟨ph', xh2, e1', oh2, h3, h4, h5⟩ := J2.owl hgi
          obtain ⟨pt', xt2, e2', ot2, t3, t4, t5⟩ := J2.owl hgj
          rw [e1] at e1'
          cases e1'
          rw [e2] at e2'
          cases e2'
          have hpt : ph ≠ pt := fun e => hij (J2.dis i j ph oh2 (by rw [e]; exact ot2))
          have nx : ∀ {c : Addr} {o : HO}, H2 c = some o → c ≠ x ∧ c ≠ dx := fun {c o} h => ⟨fun e => (by rw [e, hx] at h; cases h), fun e => (by rw [e, hdx] at h; cases h)⟩
          refine ⟨x, dx, .ref ph, .ref pt, .ref pr, .ref pg, rfl, upd_same, rfl, ?_⟩
          have keep : ∀ {c : Addr} {o : HO}, H2 c = some o → upd (upd (upd H2 dx (.own x)) x (.ins S.bc dx [])) x (.ins S.bc dx (bdFs ⟨dx, ph, pt, pr, pg⟩)) c = some o := fun {c o} h => by
            rw [upd_ne (nx h).1, upd_ne (nx h).1, upd_ne (nx h).2]
            exact h
          have fre0 : en.H0 x = none := by
            cases e : en.H0 x with
            | none => rfl
            | some o =>
              obtain ⟨u, hu⟩ := J2.stp.dom x o e
              rw [hx] at hu; cases hu
          have nRx : R2 x = none := J2.sub.fre hx
          have pr2 : R2 pr = some (.lst xr) := st2.st.rr _ _ p1
          have rB : BdR X.K S.bc R2 (upd (upd (upd H2 dx (.own x)) x (.ins S.bc dx [])) x (.ins S.bc dx (bdFs ⟨dx, ph, pt, pr, pg⟩))) x ⟨hs, ts, rs, false, g⟩ ⟨dx, ph, pt, pr, pg⟩ := by
            refine ⟨upd_same, ⟨xh2, keep h3, h4⟩, ⟨xt2, keep t3, t4⟩, ⟨xr, keep (J2.sub _ _ pr2), p2.mono st2.st.rr⟩, ⟨xg, p3, p4⟩, fun _ => ⟨_, pr2⟩, fun c hc => ?_, ?_⟩
            · have hc' : c ∈ [x, ph, pt] := hc
              simp only [List.mem_cons, List.not_mem_nil, or_false] at hc'
              rcases hc' with h | h | h <;> rw [h]
              · exact nRx
              · exact h5
              · exact t5
            · show ([x, ph, pt] : List Addr).Nodup
              simp only [List.nodup_cons, List.mem_cons, List.not_mem_nil, or_false, not_or]
              exact ⟨⟨(nx h3).1.symm, (nx t3).1.symm⟩, hpt, by simp⟩
          refine ko.rt (.brd x) _ (.ref x) R2 _ ?_ (kk x)
          unfold RetR
          rw [if_neg Bool.false_ne_true]
          refine ⟨rfl, fun c u e => keep (J2.sub c u e), ⟨J2.stp.rr, J2.stp.old, fun c o e => ?_, fun c o e n => keep (J2.stp.out c o e n), fun c z => ?_⟩, fun m v e => ?_, fun m q ⟨ds, h, _⟩ => ?_, fun m n q ⟨ds, h, _⟩ => ?_, fun p B e => ?_⟩
          · obtain ⟨u, hu⟩ := J2.stp.dom c o e
            exact ⟨u, keep hu⟩
          · have z := (Bo.iff rB).mp z
            have hc' : c ∈ [x, ph, pt] := z
            simp only [List.mem_cons, List.not_mem_nil, or_false] at hc'
            rcases hc' with h | h | h <;> rw [h]
            · exact .inr fre0
            · exact .inr (J2.own i ph oh2)
            · exact .inr (J2.own j pt ot2)
          · cases m with
            | zero =>
              cases e
              exact .vl (.brd x)
            | succ m => simp at e
          · cases m with
            | zero => cases h
            | succ m => cases h
          · cases m with
            | zero => cases h
            | succ m => cases h
          · cases e
            refine ⟨_, rB, fun m q ⟨ds, h, _⟩ => ?_⟩
            cases m with
            | zero => cases h
            | succ m => cases h
end
end LK

/-! Statements: all. -/
namespace LK
open PySem PySem.Spec PyProof.Rows L2
section
variable {S : Sy} {en : En} {N : List Str} {sc : Scope} {X : Cx} {W : WX} {lv : Nat} {ow : Bool} {y z o : Expr} {e a c : Ex} {pos p2 : Pos}
theorem gB_nil : PSs X [] (GB X.K S en W ow .nil) := pssImp pss_nil fun D σ H ⟨δ, b, R, k, I, w, o⟩ => o.nx δ b σ R H I w
theorem gB_cons {s : Sm} {r : Sms} {x : Stmt} {xs : List Stmt} (h1 : PS X x (GS X.K S en W ow s)) (h2 : PSs X xs (GB X.K S en W ow r)) : PSs X (x :: xs) (GB X.K S en W ow (.cons s r)) :=
  pssImp (pss_cons h1 h2) fun D σ H ⟨δ, b, R, k, I, w, o⟩ => ⟨δ, b, R, { k with nx := fun δ' b' => wB S.G r k δ' b' }, I, w, ⟨fun δ' b' σ' R' H' J q => ⟨δ', b', R', k, J, q, o⟩, o.rt, o.ex⟩⟩
theorem gB_frz {i : Nat} {r : Sms} {xs : List Stmt} (h2 : PSs X xs (GB X.K S en W ow r)) : PSs X xs (GB X.K S en W ow (.cons (.frz i) r)) :=
  pssImp h2 fun D σ H ⟨δ, b, R, k, I, w, o⟩ => by
    have w' : (match gt δ i with
      | .ow ds => wB S.G r k (st δ i (.vl (.lst ds))) b
      | _ => wB S.G r k δ b) := w
    cases hg : gt δ i with
    | no => rw [hg] at w'; exact ⟨δ, b, R, k, I, w', o⟩
    | vl _ => rw [hg] at w'; exact ⟨δ, b, R, k, I, w', o⟩
    | ow ds =>
      rw [hg] at w'
      obtain ⟨p, xs', _, _, _, _, J⟩ := I.freeze hg
      exact ⟨_, b, _, k, J, w', o⟩
mutual
theorem sok : ∀ (s : Sm) {X : Cx} {W : WX} {en : En} {ow : Bool} {x : Stmt}, CS S N sc X W lv → chkS S.M N S.G.fr ow sc s x = true → PS X x (GS X.K S en W ow s)
  | .asg i e, X, W, en, ow, x, C, h => by
    unfold chkS at h
    split at h
    · simp only [Bool.and_eq_true] at h
      obtain ⟨te, h1, h2⟩ := (asg_any (en := en) C h.1.1 h.1.2 h.2).1
      exact gS_asgT C h1 h2
    · cases h
  | .asgO i e, X, W, en, ow, x, C, h => by
    unfold chkS at h
    rw [Bool.and_eq_true] at h
    obtain ⟨hf, h⟩ := h
    split at h
    · simp only [Bool.and_eq_true] at h
      obtain ⟨te, h1, h2⟩ := (asg_any (en := en) C h.1.1 h.1.2 h.2).2 hf
      exact gS_asgOT C h1 h2
    · cases h
  | .frz i, X, W, en, ow, x, C, h => by simp [chkS] at h
  | .dead, X, W, en, ow, x, C, h => by simp [chkS] at h
  | .app i e, X, W, en, ow, x, C, h => by
    unfold chkS at h
    split at h
    · simp only [Bool.and_eq_true] at h
      obtain ⟨⟨⟨h1, h2⟩, h3⟩, h4⟩ := h
      have h2 := beq_iff_eq.mp h2
      subst h2
      exact gS_app C h1 h3 (chkE_ord h4) ((eok e).ge C.toCK h4)
    · cases h
  | .ext i e, X, W, en, ow, x, C, h => by
    unfold chkS at h
    split at h
    · simp only [Bool.and_eq_true] at h
      obtain ⟨⟨⟨h1, h2⟩, h3⟩, h4⟩ := h
      have h2 := beq_iff_eq.mp h2
      subst h2
      exact gS_ext C h1 h3 (chkE_ord h4) ((eok e).ge C.toCK h4)
    · cases h
  | .seti i k e, X, W, en, ow, x, C, h => by
    unfold chkS at h
    split at h
    · simp only [Bool.and_eq_true] at h
      exact gS_seti C h.1.1 (chkE_ord h.1.2) ((eok k).ge C.toCK h.1.2) ((eok e).ge C.toCK h.2)
    · cases h
  | .ite c a b, X, W, en, ow, x, C, h => by
    unfold chkS at h
    split at h
    · simp only [Bool.and_eq_true] at h
      exact gS_ite C ((eok c).gt C.toCK h.1.1).1 (bok a C h.1.2) (bok b C h.2)
    · cases h
  | .whil c b, X, W, en, ow, x, C, h => by
    unfold chkS at h
    split at h
    · simp only [Bool.and_eq_true] at h
      exact gS_whil C ((eok c).gt C.toCK h.1).1 (bok b C h.2)
    · cases h
  | .forr tg src b, X, W, en, ow, x, C, h => by
    unfold chkS at h
    split at h
    · simp only [Bool.and_eq_true] at h
      obtain ⟨⟨⟨h1, h2⟩, h3⟩, h4⟩ := h
      obtain ⟨q1, q2⟩ := (srcok src).ge (en := en) (W := W) C.toCK h3 h1 (tg_tuple h2)
      exact gS_forr C q1 (pg_T C.toCK C.hfn h2) (fun x => noSet_of q2 x) fun en => bok b C h4
    · cases h
  | .ret e, X, W, en, ow, x, C, h => by
    unfold chkS at h
    rw [Bool.and_eq_true] at h
    obtain ⟨hf, h⟩ := h
    split at h
    · cases ow with
      | false => exact gS_ret C ((eok e).ge C.toCK h)
      | true => exact gS_retF C ((eok e).gf C.toCK h (by simpa using hf))
    · cases h
  | .retO i, X, W, en, ow, x, C, h => by
    unfold chkS at h
    rw [Bool.and_eq_true] at h
    obtain ⟨hf, h⟩ := h
    subst hf
    split at h
    · exact gS_retO C h
    · cases h
  | .expr e, X, W, en, ow, x, C, h => by
    unfold chkS at h
    split at h
    · rename_i y p
      split at h
      · cases h
      · cases h
      · cases h
      · rename_i n1 n2 n3
        exact gS_expr C ((eok e).ge C.toCK h) (by
          cases y <;> first | rfl | exact absurd rfl (n1 _ _ _ _) | exact absurd rfl (n2 _ _ _ _) | exact absurd rfl (n3 _ _ _ _ _))
    · cases h
  | .rais c, X, W, en, ow, x, C, h => by
    unfold chkS at h
    split at h
    · simp only [Bool.and_eq_true] at h
      exact gS_rais C h.1 h.2
    · cases h
  | .tri b hs, X, W, en, ow, x, C, h => by
    unfold chkS at h
    split at h
    · rename_i ys xs pos
      simp only [Bool.and_eq_true] at h
      obtain ⟨⟨⟨h1, h2⟩, h3⟩, h4⟩ := h
      have h0 : ∀ p ∈ hs, ow = true → ∀ e, p.2 ≠ .retIs e := fun p hp e1 e e2 => by
        rw [e1] at h4
        simp only [Bool.not_true, Bool.false_or, List.all_eq_true] at h4
        have := h4 p hp
        rw [e2] at this
        cases this
      cases xs with
      | nil =>
        cases hs with
        | nil => simp [triOk] at h1
        | cons p r => simp [chkHds] at h3
      | cons x xs =>
        simp only [triOk, Bool.and_eq_true, Bool.or_eq_true] at h1
        obtain ⟨h1, h5 | ⟨h5, h6⟩⟩ := h1
        · refine gS_tri C h3 (fun p hp => ?_) fun {X W} C => bok b C h2
          have := List.all_eq_true.mp h5 p hp
          generalize p.2 = q at this ⊢
          cases q <;> first | trivial | cases this
        · match hs, h3, h5, h6, h0 with
          | [(d, q)], h3, h5, h6, h0 =>
            cases xs with
            | cons y ys =>
              obtain ⟨ty, nm, ss, p⟩ := x
              cases ty <;> simp [chkHds] at h3
            | nil =>
              refine gS_triAs C h3 ?_ (fun e e1 => ?_) fun {X W} C => bok b C h2
              · have := List.all_eq_true.mp h6 _ List.mem_cons_self
                cases q <;> first | trivial | cases this
              · cases ow with
                | false => rfl
                | true => exact absurd e1 (h0 _ List.mem_cons_self rfl e)
    · cases h
  | .retB i j e1 e2, X, W, en, ow, x, C, h => by
    unfold chkS at h
    simp only [Bool.and_eq_true, Bool.not_eq_true', decide_eq_true_eq] at h
    obtain ⟨⟨h0, h1⟩, h⟩ := h
    subst h0
    split at h
    · simp only [Bool.and_eq_true] at h
      obtain ⟨⟨⟨⟨⟨q0, q1⟩, q2⟩, q3⟩, q4⟩, q5⟩ := h
      exact gS_retB C q0 h1 q1 q2 q3 (chkE_ord q4) (chkE_ord q5) ((eok e1).ge C.toCK q4) ((eok e2).ge C.toCK q5)
    · cases h
  | .meth v f es, X, W, en, ow, x, C, h => by
    unfold chkS at h
    split at h
    · simp only [Bool.and_eq_true, Bool.not_eq_true', decide_eq_true_eq] at h
      obtain ⟨⟨⟨⟨⟨⟨⟨q0, q1⟩, q2⟩, q3⟩, q4⟩, q5⟩, q6⟩, q7⟩ := h
      have e := beq_iff_eq.mp q4
      subst e
      have hall := (chkEs_ord q7).1
      have C0 : CK S N sc X (fun _ _ _ _ => False) lv := { C.toCK with tk := takes0 }
      exact gS_meth C q0 q1 q3 q2 q5 q6 ((esok es).ge C0 q7) (star_of (hall _ List.mem_cons_self) _ _) (stars_of hall _ _) (stars_of (fun z hz => hall z (List.mem_cons_of_mem _ hz)) _ _)
    · cases h
  | .fset f v e, X, W, en, ow, x, C, h => by
    unfold chkS at h
    rw [Bool.and_eq_true] at h
    obtain ⟨h0, h⟩ := h
    split at h
    · simp only [Bool.and_eq_true] at h
      obtain ⟨⟨⟨q0, q1⟩, q2⟩, q3⟩ := h
      have e2 := beq_iff_eq.mp q2
      subst e2
      by_cases hf : f = .goal
      · subst hf
        exact gS_fsetG C q0 q1 ((eok e).ge C.toCK q3)
      · have hfr : fresh S.G.fr e = true := by
          rw [Bool.or_eq_true] at h0
          rcases h0 with h0 | h0
          · exact absurd (by simpa using h0) hf
          · exact h0
        exact gS_fsetF C q0 hf q1 ((eok e).gf C.toCK q3 hfr)
    · cases h
  | .fsetix f v k e, X, W, en, ow, x, C, h => by
    unfold chkS at h
    split at h
    · simp only [Bool.and_eq_true] at h
      obtain ⟨⟨⟨q0, q1⟩, q2⟩, q3⟩ := h
      exact gS_fsetix C q1 q0 (chkE_ord q2) ((eok k).ge C.toCK q2) ((eok e).ge C.toCK q3)
    · cases h
  | .fapp f v e, X, W, en, ow, x, C, h => by
    unfold chkS at h
    split at h
    · simp only [Bool.and_eq_true] at h
      obtain ⟨⟨⟨⟨q0, q1⟩, q2⟩, q3⟩, q4⟩ := h
      have e2 := beq_iff_eq.mp q2
      subst e2
      exact gS_fapp C q1 q0 q3 (chkE_ord q4) ((eok e).ge C.toCK q4)
    · cases h
theorem bok : ∀ (b : Sms) {X : Cx} {W : WX} {en : En} {ow : Bool} {xs : List Stmt}, CS S N sc X W lv → chkB S.M N S.G.fr ow sc b xs = true → PSs X xs (GB X.K S en W ow b)
  | .nil, X, W, en, ow, xs, C, h => by
    unfold chkB at h
    cases xs with
    | nil => exact gB_nil
    | cons _ _ => cases h
  | .cons s r, X, W, en, ow, xs, C, h => by
    unfold chkB at h
    cases s with
    | frz i => exact gB_frz (bok r C h)
    | dead => exact ⟨fun pins s σ H D I ⟨δ, b, R, k, I2, w, o⟩ => False.elim w⟩
    | _ =>
      cases xs with
      | nil => cases h
      | cons x xs =>
        simp only [Bool.and_eq_true] at h
        exact gB_cons (sok _ C h.1) (bok r C h.2)
end
end
end LK

/-! A def of the text and its body in the language. -/
namespace LK
open PySem PySem.Spec PyProof.Rows L2
/-- the slots at entry -/
def ent (n : Nat) (ds : List D) : Env := ds.map .vl ++ List.replicate (n - ds.length) .no
/-- what the body must answer -/
def kOf (fr : Bool) (Q : D → Ob → Prop) (E : Nat → Prop) : Kt := { nx := fun _ b => fr = false ∧ (Q .non b ∨ Q .non none), rt := fun d b => Q d b ∨ Q d none, ex := fun c _ => E c }
theorem gt_app_l : ∀ {xs ys : Env} {i : Nat}, i < xs.length → gt (xs ++ ys) i = gt xs i
  | [], _, _, h => absurd h (Nat.not_lt_zero _)
  | _ :: _, _, 0, _ => rfl
  | _ :: r, ys, i + 1, h => gt_app_l (xs := r) (Nat.lt_of_succ_lt_succ h)
theorem gt_app_r : ∀ {xs ys : Env} {i : Nat}, xs.length ≤ i → gt (xs ++ ys) i = gt ys (i - xs.length)
  | [], _, _, _ => rfl
  | _ :: r, ys, 0, h => absurd h (by simp)
  | _ :: r, ys, i + 1, h => by
    have e : (i + 1) - (r.length + 1) = i - r.length := by omega
    show gt (r ++ ys) i = gt ys ((i + 1) - (r.length + 1))
    rw [e]
    exact gt_app_r (xs := r) (Nat.le_of_succ_le_succ h)
theorem gt_rep : ∀ {n i : Nat}, gt (List.replicate n .no) i = .no
  | 0, _ => rfl
  | n + 1, 0 => rfl
  | n + 1, i + 1 => gt_rep (n := n) (i := i)
theorem ER.start {K : PySem.W.Frag} {bc : Addr} {en : En} {b : Ob} {R H : Hp} {ds : List D} {vs : List V} {N : List Str} (I : ER K bc en (ds.map .vl) b (vs.map some) R H) : ER K bc en (ent N.length ds) b (L2.start N vs) R H := by
  have hl : ds.length = vs.length := by simpa using I.len
  have no : ∀ i p, ¬ OwnAt (ent N.length ds) (L2.start N vs) i p := fun i p ⟨es, h, _⟩ => by
    unfold ent at h
    by_cases hi : i < (ds.map Sl.vl).length
    · rw [gt_app_l hi] at h
      exact absurd h gt_vls
    · rw [gt_app_r (Nat.le_of_not_lt hi), gt_rep] at h
      cases h
  refine ⟨by unfold ent L2.start; simp [hl], I.sub, I.stp, fun i v e => ?_, fun i p o => absurd o (no i p), fun i j p o => absurd o (no i p), fun p B e => ?_⟩
  · unfold ent L2.start at *
    by_cases hi : i < (vs.map some).length
    · rw [List.getElem?_append_left hi] at e
      rw [gt_app_l (by simpa [hl] using hi)]
      exact I.sl i v e
    · have hi' : (ds.map Sl.vl).length ≤ i := by simp at hi ⊢; omega
      rw [gt_app_r hi', gt_rep]
      exact .no
  · obtain ⟨a, r, _⟩ := I.bd p B e
    exact ⟨a, r, fun i q o => absurd o (no i q)⟩
theorem RetR.forget {K : PySem.W.Frag} {S : Sy} {en : En} {ow : Bool} {d : D} {b : Ob} {v : V} {R H : Hp} (r : RetR K S en ow d b v R H) : RetR K S en ow d none v R H := by
  unfold RetR at r ⊢
  split
  · rename_i h
    rw [if_pos h] at r
    obtain ⟨ds, e, J⟩ := r
    exact ⟨ds, e, J.forget⟩
  · rename_i h
    rw [if_neg h] at r
    exact r.forget
section
variable {P : Program} {w : World} {K : PySem.W.Frag} {mg : Str → Option Value} {base : Heap}
theorem fn_lk {S : Sy} {f lv : Nat} {x qual : Str} {params : Arguments} {bd : List Stmt} {sc : Scope} {a : Addr} {fd : FuncData} {N ps : List Str} (F : FunD K x qual params bd sc [] [] a fd) (Sc : FnScope N ps sc) (fs : Facts P w K mg base S lv) (body : Sms)
    (chk : chkB S.M N S.G.fr (S.G.fr f) sc body bd = true)
    (len : ∀ ds b Q E, S.G.sp f ds b Q E → ds.length = ps.length)
    (meets : ∀ ds b Q E, S.G.sp f ds b Q E → wB S.G body (kOf (S.G.fr f) Q E) (ent N.length ds) b) : FnOk P w K mg base (L2.CX P w) (lv + 2) a fd ps (spOf K S f) := by
  refine F.ok Sc (fun vs H Q E h => ?_) (fun cdv A outer s H vs Q E hr h => ?_)
  · obtain ⟨ds, b, R, Q', E', I, hs, _⟩ := h
    have := I.len
    rw [← len ds b Q' E' hs]
    simpa using this.symm
  · obtain ⟨ds, b, R, Q', E', I, hs, k, ke⟩ := h
    have hl : vs.length = ds.length := by simpa using I.len.symm
    have C : CS S N sc (cxOf (L2.CX P w) P w K mg base N qual sc a cdv A outer s H E) (fun cls d _ H' => E cls d H') lv :=
      { fs := fs, calm := rfl, n := rfl, nd := Sc.nd, sc := rfl, tk := takes_of rfl rfl rfl rfl, room := hr, fn := fun _ => rfl, stk := rfl, fr := rfl, pa := passes_of rfl, kind := Sc.kind }
    refine ⟨_, bok body (en := ⟨H, R, b⟩) (ow := S.G.fr f) C chk, ?_⟩
    refine ⟨ent N.length ds, b, R, kOf (S.G.fr f) Q' E', I.start, meets ds b Q' E' hs, ⟨fun δ b' σ R' H' J q => ?_, fun d b' v R' H' r q => ?_, fun c δ σ R' H' hh J q => ?_⟩⟩
    · obtain ⟨q0, q⟩ := q
      rcases q with q | q
      · refine k .non b' .non R' H' ?_ q
        unfold Out
        rw [if_neg (by rw [q0]; exact Bool.false_ne_true)]
        exact J.ret .non
      · refine k .non none .non R' H' ?_ q
        unfold Out
        rw [if_neg (by rw [q0]; exact Bool.false_ne_true)]
        exact J.forget.ret .non
    · rcases q with q | q
      · exact k d b' v R' H' r q
      · exact k d none v R' H' r.forget q
    · refine ke c R' H' hh ?_ q
      exact ⟨rfl, J.sub, J.stp, fun i v e => by simp at e, fun i p ⟨_, z, _⟩ => (by cases z), fun i j p ⟨_, z, _⟩ => (by cases z), fun _ _ e => nomatch e⟩
/-- the defs before the n-th -/
def _root_.LK.Sy.upto (S : Sy) (n : Nat) : Sy := { S with M := { S.M with hf := fun g => S.M.hf g && decide (g < n), hm := fun g => S.M.hm g && decide (g < n) } }
theorem upto_sp {S : Sy} {n f : Nat} : spOf K (S.upto n) f = spOf K S f := rfl
theorem FnF.mono {S : Sy} {lv lv' f : Nat} {a : Addr} (h : FnF P w K mg base S lv f a) (hl : lv ≤ lv') : FnF P w K mg base S lv' f a := by
  obtain ⟨k, fd, ps, hb, ok⟩ := h
  exact ⟨k, fd, ps, hb, ok.mono hl⟩
theorem BdF.mono {S : Sy} {lv lv' : Nat} (h : BdF P w K mg base S lv) (hl : lv ≤ lv') : BdF P w K mg base S lv' := by
  obtain ⟨g, c, n, fi, fdi, h1, h2, h3⟩ := h
  exact ⟨g, c, n, fi, fdi, h1, h2, h3.mono hl⟩
theorem FnF.up {S : Sy} {lv lv' f n m : Nat} {a : Addr} (h : FnF P w K mg base (S.upto n) lv f a) (hl : lv ≤ lv') : FnF P w K mg base (S.upto m) lv' f a := by
  obtain ⟨k, fd, ps, hb, ok⟩ := h
  exact ⟨k, fd, ps, hb, ok.mono hl⟩
theorem ExcF.up {S : Sy} {n m c : Nat} (h : ExcF K mg (S.upto n) c) : ExcF K mg (S.upto m) c := ⟨h.g, h.x, h.k, h.b, h.t, h.i, h.v⟩
theorem BdF.up {S : Sy} {lv lv' n m : Nat} (h : BdF P w K mg base (S.upto n) lv) (hl : lv ≤ lv') : BdF P w K mg base (S.upto m) lv' := by
  obtain ⟨g, c, n, fi, fdi, h1, h2, h3⟩ := h
  exact ⟨g, c, n, fi, fdi, h1, h2, h3.mono hl⟩
theorem Facts.step {S : Sy} {f lv : Nat} {x y qual : Str} {params : Arguments} {bd : List Stmt} {sc : Scope} {a : Addr} {fd : FuncData} {N ps : List Str} (fs : Facts P w K mg base (S.upto f) lv) (F : FunD K x qual params bd sc [] [] a fd) (Sc : FnScope N ps sc) (body : Sms)
    (hx : S.M.fn f = y) (g : mg y = some (.ref a)) (hm : S.M.hm f = false)
    (hb : ∀ (kV doc pm : Value) (an : Option Addr) (cdv ct : Value) (us : List Value), us.length = ps.length → bindArgs (PySem.W.fnOf x qual params bd sc .none kV doc pm an cdv ct) ⟨us, []⟩ = pure (ps.zip us))
    (chk : chkB (S.upto f).M N S.G.fr (S.G.fr f) sc body bd = true)
    (len : ∀ ds b Q E, S.G.sp f ds b Q E → ds.length = ps.length)
    (meets : ∀ ds b Q E, S.G.sp f ds b Q E → wB S.G body (kOf (S.G.fr f) Q E) (ent N.length ds) b) : Facts P w K mg base (S.upto (f + 1)) (lv + 2) := by
  have ok := fn_lk (S := S.upto f) (f := f) F Sc fs body chk len meets
  refine ⟨fun f' h => ?_, fun f' h => ?_, fs.bl, fs.gl, fun c h => (fs.ex c h).up, fs.em, fun h => (fs.bd h).up (Nat.le_add_right lv 2)⟩
  · have h' : (S.M.hf f' && decide (f' < f + 1)) = true := h
    simp only [Bool.and_eq_true, decide_eq_true_eq] at h'
    by_cases e : f' = f
    · subst e
      exact ⟨a, by show mg (S.M.fn f') = _; rw [hx]; exact g, F.kp, fd, ps, F.bindsN hb, ok⟩
    · obtain ⟨a', g', h2⟩ := fs.fn f' (by show (S.M.hf f' && decide (f' < f)) = true; rw [h'.1]; simpa using (by omega : f' < f))
      exact ⟨a', g', h2.up (Nat.le_add_right lv 2)⟩
  · have h' : (S.M.hm f' && decide (f' < f + 1)) = true := h
    simp only [Bool.and_eq_true, decide_eq_true_eq] at h'
    by_cases e : f' = f
    · subst e
      rw [hm] at h'
      cases h'.1
    · obtain ⟨q1, a', g', h2⟩ := fs.mt f' (by show (S.M.hm f' && decide (f' < f)) = true; rw [h'.1]; simpa using (by omega : f' < f))
      exact ⟨q1, a', g', h2.up (Nat.le_add_right lv 2)⟩
theorem Facts.stepM {S : Sy} {f lv : Nat} {x qual : Str} {params : Arguments} {bd : List Stmt} {sc : Scope} {a : Addr} {fd : FuncData} {N ps : List Str} (fs : Facts P w K mg base (S.upto f) lv) (F : FunD K x qual params bd sc [] [] a fd) (Sc : FnScope N ps sc) (body : Sms)
    (hx : S.M.fn f = x) (g : Meth K S.bc x a) (hm : S.M.hf f = false) (hn : ∀ a : BdA, (bdFs a).lookup x = none)
    (hb : ∀ (kV doc pm : Value) (an : Option Addr) (cdv ct : Value) (us : List Value), us.length = ps.length → bindArgs (PySem.W.fnOf x qual params bd sc .none kV doc pm an cdv ct) ⟨us, []⟩ = pure (ps.zip us))
    (chk : chkB (S.upto f).M N S.G.fr (S.G.fr f) sc body bd = true)
    (len : ∀ ds b Q E, S.G.sp f ds b Q E → ds.length = ps.length)
    (meets : ∀ ds b Q E, S.G.sp f ds b Q E → wB S.G body (kOf (S.G.fr f) Q E) (ent N.length ds) b) : Facts P w K mg base (S.upto (f + 1)) (lv + 2) := by
  have ok := fn_lk (S := S.upto f) (f := f) F Sc fs body chk len meets
  refine ⟨fun f' h => ?_, fun f' h => ?_, fs.bl, fs.gl, fun c h => (fs.ex c h).up, fs.em, fun h => (fs.bd h).up (Nat.le_add_right lv 2)⟩
  · have h' : (S.M.hf f' && decide (f' < f + 1)) = true := h
    simp only [Bool.and_eq_true, decide_eq_true_eq] at h'
    by_cases e : f' = f
    · subst e
      rw [hm] at h'
      cases h'.1
    · obtain ⟨a', g', h2⟩ := fs.fn f' (by show (S.M.hf f' && decide (f' < f)) = true; rw [h'.1]; simpa using (by omega : f' < f))
      exact ⟨a', g', h2.up (Nat.le_add_right lv 2)⟩
  · have h' : (S.M.hm f' && decide (f' < f + 1)) = true := h
    simp only [Bool.and_eq_true, decide_eq_true_eq] at h'
    by_cases e : f' = f
    · subst e
      exact ⟨fun a => by show (bdFs a).lookup (S.M.fn f') = none; rw [hx]; exact hn a, a, by show Meth K S.bc (S.M.fn f') a; rw [hx]; exact g, F.kp, fd, ps, F.bindsN hb, ok⟩
    · obtain ⟨q1, a', g', h2⟩ := fs.mt f' (by show (S.M.hm f' && decide (f' < f)) = true; rw [h'.1]; simpa using (by omega : f' < f))
      exact ⟨q1, a', g', h2.up (Nat.le_add_right lv 2)⟩
/-- a def that is never called: nothing is asked of its body -/
theorem fn_never {S : Sy} {f lv : Nat} {a : Addr} {fd : FuncData} {ps : List Str} (h : ∀ ds b Q E, ¬ S.G.sp f ds b Q E) : FnOk P w K mg base (L2.CX P w) lv a fd ps (spOf K S f) :=
  ⟨fun vs H Q E ⟨ds, b, R, Q', E', _, hs, _⟩ => absurd hs (h ds b Q' E'), fun A outer s H args us vs Q E _ _ _ _ ⟨ds, b, R, Q', E', _, hs, _⟩ => absurd hs (h ds b Q' E')⟩
theorem Facts.stepF {S : Sy} {f lv : Nat} {x y qual : Str} {params : Arguments} {bd : List Stmt} {sc : Scope} {a : Addr} {fd : FuncData} {ps : List Str} (fs : Facts P w K mg base (S.upto f) lv) (F : FunD K x qual params bd sc [] [] a fd)
    (hx : S.M.fn f = y) (g : mg y = some (.ref a)) (hm : S.M.hm f = false)
    (hb : ∀ (kV doc pm : Value) (an : Option Addr) (cdv ct : Value) (us : List Value), us.length = ps.length → bindArgs (PySem.W.fnOf x qual params bd sc .none kV doc pm an cdv ct) ⟨us, []⟩ = pure (ps.zip us))
    (never : ∀ ds b Q E, ¬ S.G.sp f ds b Q E) : Facts P w K mg base (S.upto (f + 1)) lv := by
  have ok : FnOk P w K mg base (L2.CX P w) lv a fd ps (spOf K (S.upto f) f) := fn_never never
  refine ⟨fun f' h => ?_, fun f' h => ?_, fs.bl, fs.gl, fun c h => (fs.ex c h).up, fs.em, fun h => (fs.bd h).up (Nat.le_refl lv)⟩
  · have h' : (S.M.hf f' && decide (f' < f + 1)) = true := h
    simp only [Bool.and_eq_true, decide_eq_true_eq] at h'
    by_cases e : f' = f
    · subst e
      exact ⟨a, by show mg (S.M.fn f') = _; rw [hx]; exact g, F.kp, fd, ps, F.bindsN hb, ok⟩
    · obtain ⟨a', g', h2⟩ := fs.fn f' (by show (S.M.hf f' && decide (f' < f)) = true; rw [h'.1]; simpa using (by omega : f' < f))
      exact ⟨a', g', h2.up (Nat.le_refl lv)⟩
  · have h' : (S.M.hm f' && decide (f' < f + 1)) = true := h
    simp only [Bool.and_eq_true, decide_eq_true_eq] at h'
    by_cases e : f' = f
    · subst e
      rw [hm] at h'
      cases h'.1
    · obtain ⟨q1, a', g', h2⟩ := fs.mt f' (by show (S.M.hm f' && decide (f' < f)) = true; rw [h'.1]; simpa using (by omega : f' < f))
      exact ⟨q1, a', g', h2.up (Nat.le_refl lv)⟩
/-- the law's own def -/
theorem law_sp {S : Sy} {f : Nat} {H : Hp} {a : Addr} {ns : List Int} (h : SqL K H a (ns.map V.int)) (hf : S.G.fr f = false) (hs : S.G.sp f [.scr ns] none (fun d _ => d = .bl true) fun _ => False) : spOf K S f [.ref a] H (fun v _ => v = .bl true) fun _ _ _ => False := by
  refine ⟨[.scr ns], none, H, _, _, ⟨rfl, Sub.refl _, Stp.refl (Sub.refl _), fun i v e => ?_, fun i p ⟨es, h, _⟩ => absurd h gt_vls, fun i j p ⟨es, h, _⟩ => absurd h gt_vls, fun _ _ e => nomatch e⟩, hs, fun d b' v R' H' o e => ?_, fun _ _ _ _ _ z => z⟩
  · cases i with
    | zero =>
      cases e
      exact .vl (.scr h)
    | succ i => simp at e
  · subst e
    unfold Out at o
    rw [if_neg (by rw [hf]; exact Bool.false_ne_true)] at o
    have h := o.sl 0 (some v) rfl
    cases h with
    | vl r =>
      cases r
      rfl
end
end LK

/-! From the top of the text to the law's end. -/
namespace LK
open PySem PySem.Spec PyProof.Rows L2
section
variable {P : Program} {w : World} {K : PySem.W.Frag} {mg : Str → Option Value} {base : Heap}
/-- no def stands between -/
theorem Facts.skip {S : Sy} {f lv : Nat} (fs : Facts P w K mg base (S.upto f) lv) (g : Nat) (h : ((List.range (g - f)).all fun i => !S.M.hf (f + i) && !S.M.hm (f + i)) = true) : Facts P w K mg base (S.upto g) lv := by
  have out : ∀ f', f' < g → ¬ f' < f → S.M.hf f' = false ∧ S.M.hm f' = false := fun f' h1 h2 => by
    have := List.all_eq_true.mp h (f' - f) (by simp; omega)
    have e : f + (f' - f) = f' := by omega
    rw [e] at this
    simpa using this
  refine ⟨fun f' h => ?_, fun f' h => ?_, fs.bl, fs.gl, fun c h => (fs.ex c h).up, fs.em, fun h => (fs.bd h).up (Nat.le_refl lv)⟩
  · have h' : (S.M.hf f' && decide (f' < g)) = true := h
    simp only [Bool.and_eq_true, decide_eq_true_eq] at h'
    by_cases e : f' < f
    · obtain ⟨a', g', h2⟩ := fs.fn f' (by show (S.M.hf f' && decide (f' < f)) = true; rw [h'.1]; simpa using e)
      exact ⟨a', g', h2.up (Nat.le_refl lv)⟩
    · rw [(out f' h'.2 e).1] at h'
      cases h'.1
  · have h' : (S.M.hm f' && decide (f' < g)) = true := h
    simp only [Bool.and_eq_true, decide_eq_true_eq] at h'
    by_cases e : f' < f
    · obtain ⟨q1, a', g', h2⟩ := fs.mt f' (by show (S.M.hm f' && decide (f' < f)) = true; rw [h'.1]; simpa using e)
      exact ⟨q1, a', g', h2.up (Nat.le_refl lv)⟩
    · rw [(out f' h'.2 e).2] at h'
      cases h'.1
/-- an own error's class -/
theorem excF_of {S : Sy} {c : Nat} {h : Heap} (X : K.In h) (G : h.Ns mainGlobals mg) (hc : S.ca c = He.ga K (S.M.ex c)) (g : (He.Fa.glo (S.M.ex c)).ok K = true) (e : (He.Fa.exc (S.M.ex c)).ok K = true) (b : excB K (S.M.ex c) = true) : ExcF K mg S c := by
  obtain ⟨e1, e2, e3, e4⟩ := He.exc_ok e
  simp only [excB, Bool.and_eq_true, decide_eq_true_eq] at b
  obtain ⟨⟨⟨⟨⟨⟨⟨b1, b2⟩, b3⟩, b4⟩, b5⟩, b6⟩, b7⟩, b8⟩ := b
  refine ⟨?_, ?_, ?_, ?_, ?_, ?_, ?_⟩
  · rw [hc]; exact He.glo_ok X G g
  · rw [hc]; exact e1
  · rw [hc]; exact e2
  · rw [hc]; exact e3
  · rw [hc]; exact e4
  · rw [hc]; exact ⟨b1, b2, e3, b3, b4, b5, b6, b7⟩
  · rw [hc]; exact b8
/-- a constant: a number, a pair of numbers -/
theorem gl_int {h : Heap} (X : K.In h) (G : h.Ns mainGlobals mg) {x : Str} {i : Int} (c : (He.Fa.int x i).ok K = true) : ∃ u v, mg x = some u ∧ RelV v u ∧ Rp K (fun _ => none) v (.int i) := by
  obtain ⟨t, e⟩ := He.int_ok X G c
  exact ⟨_, .int i, e, ⟨t, rfl⟩, .int i⟩
theorem gl_pair {h : Heap} (X : K.In h) (G : h.Ns mainGlobals mg) {x : Str} {i j : Int} (g : (He.Fa.glo x).ok K = true) (c : He.tupB K x [.int i, .int j] = true) : ∃ u v, mg x = some u ∧ RelV v u ∧ Rp K (fun _ => none) v (.tup [.int i, .int j]) :=
  ⟨_, .ref (He.ga K x), He.glo_ok X G g, rfl, .tup (He.tupB_ok c _) (.cons (.int i) (.cons (.int j) .nil))⟩
end
/-- the end (as the layer's, the errors' wish told by the world) -/
theorem walk_lk {l : PySem.W.OpenLaw} {n k : Nat} {q : Program} {loose : List Str} {XP : (Str → Option Value) → Heap → Prop} {YP : World → Heap → Prop} {d : DefRec} {x : Str}
    (hn : l.most = some n) (hn2 : n ≤ sizeLine) (hdf : d.params.defaults = []) (hr : Room k callerA)
    (F : ∀ (w : World) (mg : Str → Option Value) (fa : Addr) (h : Heap), YP w h → h.Ns mainGlobals mg → mg d.name = some (.ref fa) →
      ∃ (K : PySem.W.Frag) (fd : FuncData) (sp : Sp), K.In h ∧ (∀ (s : Shared) (u : Value), BindsTo s fd ⟨[u], []⟩ [(x, u)]) ∧
        (∀ (H : Hp) (a : Addr) (ns : List Int), ns.length ≤ n → Only H → SqL K H a (ns.map V.int) → sp [.ref a] H (fun v _ => v = .bl true) fun _ _ _ => False) ∧
        ∀ base : Heap, K.In base → base.Ns mainGlobals mg → FnOk l.prog w K mg base (L2.CX l.prog w) k fa fd [x] sp) :
    PySem.W.WalkO q loose XP YP l.row.toRowW d [] (fun f vs => PySem.call f vs) := by
  refine Att.attach_call hn hdf fun w s₀ s₁ mg mb fa o pm cd doc a vs ns G Y ho hd hcd hmg hobj hints hlen hg => ?_
  obtain ⟨K, fd, sp, KX, hb, hsp, hF⟩ := F w mg fa _ Y G.T.g hmg
  refine law_call KX G.T.g G.T.b G.T.builtins G.T.nolimit hg hobj hints (Nat.le_trans hlen hn2) hr hF hb (fun H hO hS => hsp H a ns hlen hO hS) fun H e s' z => ?_
  obtain ⟨_, _, _, _, _, _, _, _, _, _, _, _, z⟩ := z
  exact z.elim
end LK

/-! The object's class: its maker. -/
namespace LK
open PySem PySem.Spec PyProof.Rows L2
/-- self.f = f -/
def chkSelf (N : List Str) (sc : Scope) (f : Str) (i : Nat) (x : Stmt) : Bool := match x with
  | .Assign [.Attribute o a _] z _ => chkV N sc 0 o && chkV N sc i z && a == f
  | _ => false
def initN : List Str := ["self", "heads", "tails", "rows", "goal"]
def chkInit (sc : Scope) (xs : List Stmt) : Bool := match xs with
  | [a, b, c, d] => chkSelf initN sc "heads" 1 a && chkSelf initN sc "tails" 2 b && chkSelf initN sc "rows" 3 c && chkSelf initN sc "goal" 4 d
  | _ => false
theorem chkSelf_ok {X : Cx} {sc : Scope} (hN : X.N = initN) (hsc : X.env.scope = sc) {f : Str} {i : Nat} {x : Stmt} (h : chkSelf initN sc f i x = true) : PS X x (sFld X.K (tVar 0) (tVar i) f) := by
  unfold chkSelf at h
  split at h
  · simp only [Bool.and_eq_true] at h
    obtain ⟨⟨h1, h2⟩, h3⟩ := h
    have e := beq_iff_eq.mp h3
    subst e
    have vis : ∀ {k : Nat} {y : Expr}, chkV initN sc k y = true → PE X y (tVar k) ∧ ∃ s p, y = .Name s p := fun {k y} hk => by
      obtain ⟨s, p, rfl⟩ := chkV_inv hk
      simp only [chkV, Bool.and_eq_true, decide_eq_true_eq] at hk
      obtain ⟨⟨q1, q2⟩, q3⟩ := hk
      obtain ⟨d1, d2, _⟩ := okN q3
      refine ⟨pe_var (by rw [hN]; exact q1) ?_ d1 d2, s, p, rfl⟩
      unfold isVis at q2
      rw [hsc]
      split at q2
      · exact .inl (by assumption)
      · exact .inr (.inl (by assumption))
      · exact .inr (.inr (by assumption))
      · cases q2
    obtain ⟨v1, s1, p1, rfl⟩ := vis h1
    obtain ⟨v2, s2, p2, rfl⟩ := vis h2
    exact ps_fld v1 v2 rfl
  · cases h
section
variable {P : Program} {w : World} {K : PySem.W.Frag} {mg : Str → Option Value} {base : Heap}
theorem bd_of {S : Sy} {h : Heap} {x qual : Str} {params : Arguments} {bd : List Stmt} {sc : Scope} (X : K.In h) (G : h.Ns mainGlobals mg) (hbc : S.bc = He.ga K "Board") (hnm : S.M.bd = "Board") (g : (He.Fa.glo "Board").ok K = true) (c : (He.Fa.cls "Board").ok K = true)
    (n : ∀ f, (He.Fa.noat "Board" (flName f)).ok K = true) (m : (He.Fa.mkr "Board").ok K = true) (d : ∃ fd, FunD K x qual params bd sc [] [] (He.ma K (He.ga K "Board") "__init__") fd) (Sc : FnScope initN initN sc) (chk : chkInit sc bd = true)
    (hb : ∀ (kV doc pm : Value) (an : Option Addr) (cdv ct : Value) (us : List Value), us.length = initN.length → bindArgs (PySem.W.fnOf x qual params bd sc .none kV doc pm an cdv ct) ⟨us, []⟩ = pure (initN.zip us)) : BdF P w K mg base S 1 := by
  obtain ⟨fd, F⟩ := d
  have C := He.cls_ok c
  have nn : ∀ f, NoAttr K (He.ga K "Board") (flName f) := fun f => He.noat_ok (n f)
  refine ⟨by rw [hnm, hbc]; exact He.glo_ok X G g, by rw [hbc]; exact C, fun f => by rw [hbc]; exact nn f, _, fd, by rw [hbc]; exact He.mkr_ok m, F.bindsN hb, ?_⟩
  refine F.ok (k := 0) (N := initN) Sc (fun vs H Q E h => ?_) (fun cdv A outer s H vs Q E hr h => ?_)
  · obtain ⟨p, dx, a1, a2, a3, a4, rfl, _⟩ := h
    rfl
  · obtain ⟨p, dx, a1, a2, a3, a4, rfl, hp, hQ⟩ := h
    match bd, chk with
    | [x1, x2, x3, x4], chk =>
      simp only [chkInit, Bool.and_eq_true] at chk
      obtain ⟨⟨⟨c1, c2⟩, c3⟩, c4⟩ := chk
      refine ⟨_, pss_cons (chkSelf_ok rfl rfl c1) (pss_cons (chkSelf_ok rfl rfl c2) (pss_cons (chkSelf_ok rfl rfl c3) (pss_cons (chkSelf_ok rfl rfl c4) pss_nil))), ?_⟩
      have nb : ∀ f, NoAttr K S.bc (flName f) := fun f => by rw [hbc]; exact nn f
      have Cb : Cls K S.bc := by rw [hbc]; exact C
      refine ⟨_, rfl, _, rfl, p, S.bc, dx, _, rfl, hp, Cb, nb .heads, (by decide), ?_⟩
      refine ⟨_, rfl, _, rfl, p, S.bc, dx, _, rfl, upd_same, Cb, nb .tails, (show 1 < 1000 by decide), ?_⟩
      refine ⟨_, rfl, _, rfl, p, S.bc, dx, _, rfl, upd_same, Cb, nb .rows, (show 2 < 1000 by decide), ?_⟩
      refine ⟨_, rfl, _, rfl, p, S.bc, dx, _, rfl, upd_same, Cb, nb .goal, (show 3 < 1000 by decide), ?_⟩
      have e : ∀ (H : Hp) (o1 o2 : HO), upd (upd H p o1) p o2 = upd H p o2 := fun H o1 o2 => funext fun c => by
        by_cases hc : c = p
        · subst hc
          rw [upd_same, upd_same]
        · rw [upd_ne hc, upd_ne hc, upd_ne hc]
      show Q .non _
      rw [e, e, e]
      exact hQ
end
end LK

/-! Running a body of the language: numbers, fractions. -/
namespace LK
open PySem
def fr (r : Rat) : D := .tup [.int r.num, .int r.den]
/-- size of a fraction -/
def Sz (n : Nat) (r : Rat) : Prop := r.num.natAbs < 2 ^ n ∧ r.den < 2 ^ n
theorem log2_lt {n k : Nat} (h : n < 2 ^ k) (hk : 0 < k) : n.log2 < k := by
  by_cases h0 : n = 0
  · subst h0
    simpa using hk
  · exact (Nat.log2_lt h0).mpr h
theorem MulOk.of {i j : Int} {a b : Nat} (hi : i.natAbs < 2 ^ a) (hj : j.natAbs < 2 ^ b) (hab : a + b ≤ 900000) : MulOk i j := by
  refine .inr ?_
  have h1 := log2_lt (k := a + 1) (n := i.natAbs) (Nat.lt_of_lt_of_le hi (Nat.pow_le_pow_right (by decide) (by omega))) (by omega)
  have h2 := log2_lt (k := b + 1) (n := j.natAbs) (Nat.lt_of_lt_of_le hj (Nat.pow_le_pow_right (by decide) (by omega))) (by omega)
  omega
theorem MulOk.l {i j : Int} (h : -(2 ^ 64) < i ∧ i < 2 ^ 64) : MulOk i j := .inl (.inl h)
theorem MulOk.r {i j : Int} (h : -(2 ^ 64) < j ∧ j < 2 ^ 64) : MulOk i j := .inl (.inr h)
theorem DivOk.of {j : Int} {a : Nat} (h0 : j ≠ 0) (hj : j.natAbs < 2 ^ a) (ha : a < 9000) : DivOk j := ⟨h0, by
  have := log2_lt (k := a + 1) (n := j.natAbs) (Nat.lt_of_lt_of_le hj (Nat.pow_le_pow_right (by decide) (by omega))) (by omega)
  omega⟩
theorem natAbs_mul_lt {i j : Int} {a b : Nat} (hi : i.natAbs < 2 ^ a) (hj : j.natAbs < 2 ^ b) : (i * j).natAbs < 2 ^ (a + b) := by
  rw [Int.natAbs_mul, Nat.pow_add]
  exact Nat.mul_lt_mul'' hi hj
theorem natAbs_add_lt {i j : Int} {a : Nat} (hi : i.natAbs < 2 ^ a) (hj : j.natAbs < 2 ^ a) : (i + j).natAbs < 2 ^ (a + 1) := by
  rw [Nat.pow_succ]
  omega
theorem fdiv_pos {i j : Int} (h : 0 < j) : i.fdiv j = i / j := Int.fdiv_eq_ediv_of_nonneg i (Int.le_of_lt h)
theorem fmod_pos {i j : Int} (h : 0 < j) : i.fmod j = i % j := Int.fmod_eq_emod_of_nonneg i (Int.le_of_lt h)
/-! ### a python index -/
theorem atI_nn {α : Type} {xs : List α} {k : Nat} {x : α} (h : xs[k]? = some x) : L2.atI xs (k : Int) = some x := by
  obtain ⟨hl, hx⟩ := List.getElem?_eq_some_iff.mp h
  unfold L2.atI L2.ixN
  have h1 : (0 : Int) ≤ (k : Int) := by omega
  simp [hl, hx]
theorem iteB {c : Prop} [Decidable c] {A B : Prop} (h1 : c → A) (h2 : ¬ c → B) : if decide c = true then A else B := by
  by_cases h : c
  · rw [if_pos (decide_eq_true h)]; exact h1 h
  · rw [if_neg (by simpa using h)]; exact h2 h
theorem iteN {c : Prop} [Decidable c] {A B : Prop} (h1 : ¬ c → A) (h2 : c → B) : if (!decide c) = true then A else B := by
  by_cases h : c
  · rw [if_neg (by simpa using h)]; exact h2 h
  · rw [if_pos (by simpa using h)]; exact h1 h
theorem iteb {t : Bool} {A B : Prop} (h1 : t = true → A) (h2 : t = false → B) : if t = true then A else B := by
  cases t
  · exact h2 rfl
  · exact h1 rfl
theorem eqD_int (i j : Int) : eqD (.int i) (.int j) = decide (i = j) := by
  unfold eqD toPy
  by_cases h : i = j
  · subst h
    simp [PyData.eqv]
  · simp [PyData.eqv, h]
/-! ### equality -/
mutual
/-- neither truth nor object within -/
def plD : D → Bool
  | .non => true
  | .int _ => true
  | .str _ => true
  | .tup ds => plDs ds
  | .lst ds => plDs ds
  | _ => false
def plDs : List D → Bool
  | [] => true
  | d :: ds => plD d && plDs ds
end
mutual
theorem eqD_iff : ∀ (x y : D), plD x = true → plD y = true → (eqD x y = true ↔ x = y)
  | .non, y, _, h => by cases y <;> simp [eqD, toPy, PyData.eqv, plD] at h ⊢
  | .int i, y, _, h => by cases y <;> simp [eqD, toPy, PyData.eqv, plD] at h ⊢
  | .str s, y, _, h => by cases y <;> simp [eqD, toPy, PyData.eqv, plD] at h ⊢
  | .tup ds, y, h, h' => by
    cases y with
    | tup es =>
      have := eqDs_iff ds es (by simpa [plD] using h) (by simpa [plD] using h')
      simpa [eqD, toPy, PyData.eqv] using this
    | _ => simp [eqD, toPy, PyData.eqv, plD] at h' ⊢
  | .lst ds, y, h, h' => by
    cases y with
    | lst es =>
      have := eqDs_iff ds es (by simpa [plD] using h) (by simpa [plD] using h')
      simpa [eqD, toPy, PyData.eqv] using this
    | _ => simp [eqD, toPy, PyData.eqv, plD] at h' ⊢
  | .bl _, _, h, _ => by simp [plD] at h
  | .scr _, _, h, _ => by simp [plD] at h
  | .brd _, _, h, _ => by simp [plD] at h
theorem eqDs_iff : ∀ (xs ys : List D), plDs xs = true → plDs ys = true → (PyData.eqvAll (toPys xs) (toPys ys) = true ↔ xs = ys)
  | [], [], _, _ => by simp [toPys, PyData.eqvAll]
  | [], _ :: _, _, _ => by simp [toPys, PyData.eqvAll]
  | _ :: _, [], _, _ => by simp [toPys, PyData.eqvAll]
  | x :: xs, y :: ys, h, h' => by
    simp only [plDs, Bool.and_eq_true] at h h'
    have h1 := eqD_iff x y h.1 h'.1
    have h2 := eqDs_iff xs ys h.2 h'.2
    simp only [toPys, PyData.eqvAll, Bool.and_eq_true, List.cons.injEq]
    rw [← h1, ← h2]
    rfl
end
theorem cmpOks_ints : ∀ (ns : List Int) (n : Nat), cmpOks n (ns.map .int) = true
  | [], _ => rfl
  | i :: ns, n => by
    simp only [List.map_cons, cmpOks, cmpOks_ints ns n, Bool.and_true]
    cases n <;> rfl
theorem plDs_ints : ∀ (ns : List Int), plDs (ns.map .int) = true
  | [] => rfl
  | i :: ns => by simp only [List.map_cons, plDs, plD, plDs_ints ns, Bool.and_true]
theorem eqD_scr_nil {ns : List Int} : eqD (.scr ns) (.lst []) = true ↔ ns = [] := by
  cases ns <;> simp [eqD, toPy, toPys, PyData.eqv, PyData.eqvAll]
/-! ### one step each -/
section
variable {i j : Int} {s : Str} {ds es : List D} {ns : List Int} {d x y : D} {Q : D → Prop} {t : Bool}
theorem e_neg : w1 .neg (.int i) Q = Q (.int (-i)) := rfl
theorem e_abs : w1 .abs (.int i) Q = Q (.int (i.natAbs : Int)) := rfl
theorem e_lent : w1 .len (.tup ds) Q = Q (.int ds.length) := rfl
theorem e_lenl : w1 .len (.lst ds) Q = Q (.int ds.length) := rfl
theorem e_lens : w1 .len (.scr ns) Q = Q (.int ns.length) := rfl
theorem e_lenS : w1 .len (.str s) Q = (s.length ≤ 1000000 ∧ Q (.int s.length)) := rfl
theorem e_tupt : w1 .tupO (.tup ds) Q = Q (.tup ds) := rfl
theorem e_tupl : w1 .tupO (.lst ds) Q = Q (.tup ds) := rfl
theorem e_lstt : w1 .lstO (.tup ds) Q = Q (.lst ds) := rfl
theorem e_lstl : w1 .lstO (.lst ds) Q = Q (.lst ds) := rfl
theorem e_inti : w1 .intO (.int i) Q = Q (.int i) := rfl
theorem e_intb : w1 .intO (.bl t) Q = Q (.int (if t then 1 else 0)) := rfl
theorem e_str : w1 .strO (.int i) Q = (i.natAbs.log2 < 1920 ∧ Q (.str (toString i))) := rfl
theorem e_isInt : w1 .isInt d Q = (isBrdD d = false ∧ Q (.bl (isIntD d))) := by cases d <;> rfl
theorem e_isBool : w1 .isBool d Q = (isBrdD d = false ∧ Q (.bl (isBoolD d))) := by cases d <;> rfl
theorem e_isTup : w1 .isTup d Q = (isBrdD d = false ∧ Q (.bl (isTupD d))) := by cases d <;> rfl
theorem e_isLst : w1 .isLst d Q = (isBrdD d = false ∧ Q (.bl (isLstD d))) := by cases d <;> rfl
theorem e_isStr : w1 .isStr d Q = (isBrdD d = false ∧ Q (.bl (isStrD d))) := by cases d <;> rfl
theorem e_isN : w1 .isN d Q = Q (.bl (isNonD d)) := by cases d <;> rfl
theorem e_notN : w1 .notN d Q = Q (.bl (!isNonD d)) := by cases d <;> rfl
theorem e_add : w2 .add (.int i) (.int j) Q = Q (.int (i + j)) := rfl
theorem e_sub : w2 .sub (.int i) (.int j) Q = Q (.int (i - j)) := rfl
theorem e_mul : w2 .mul (.int i) (.int j) Q = (MulOk i j ∧ Q (.int (i * j))) := rfl
theorem e_fdiv : w2 .fdiv (.int i) (.int j) Q = (DivOk j ∧ Q (.int (i.fdiv j))) := rfl
theorem e_mod : w2 .mod (.int i) (.int j) Q = (j ≠ 0 ∧ Q (.int (i.fmod j))) := rfl
theorem e_pow : w2 .pow (.int i) (.int j) Q = ((0 ≤ j ∧ j ≤ 1000000 ∧ i.natAbs < 2 ^ 64) ∧ Q (.int (i ^ j.toNat))) := rfl
theorem e_lt : w2 .lt (.int i) (.int j) Q = Q (.bl (decide (i < j))) := rfl
theorem e_le : w2 .le (.int i) (.int j) Q = Q (.bl (decide (i ≤ j))) := rfl
theorem e_gt : w2 .gt (.int i) (.int j) Q = Q (.bl (decide (j < i))) := rfl
theorem e_ge : w2 .ge (.int i) (.int j) Q = Q (.bl (decide (j ≤ i))) := rfl
theorem e_eqi : w2 .eq (.int i) (.int j) Q = Q (.bl (decide (i = j))) := by
  show (cmpOk 20 (.int i) = true ∧ cmpOk 20 (.int j) = true ∧ Q (.bl (eqD (.int i) (.int j)))) = _
  rw [eqD_int]
  simp [cmpOk]
theorem e_nei : w2 .ne (.int i) (.int j) Q = Q (.bl (!decide (i = j))) := by
  show (cmpOk 20 (.int i) = true ∧ cmpOk 20 (.int j) = true ∧ Q (.bl (!eqD (.int i) (.int j)))) = _
  rw [eqD_int]
  simp [cmpOk]
theorem e_eq : w2 .eq x y Q = (cmpOk 20 x = true ∧ cmpOk 20 y = true ∧ Q (.bl (eqD x y))) := by cases x <;> cases y <;> rfl
theorem e_ne : w2 .ne x y Q = (cmpOk 20 x = true ∧ cmpOk 20 y = true ∧ Q (.bl (!eqD x y))) := by cases x <;> cases y <;> rfl
theorem e_cat : w2 .cat (.lst ds) (.lst es) Q = (ds.length + es.length ≤ 1000000 ∧ Q (.lst (ds ++ es))) := rfl
theorem e_tcat : w2 .tcat (.tup ds) (.tup es) Q = (ds.length + es.length ≤ 1000000 ∧ Q (.tup (ds ++ es))) := rfl
theorem e_ixl : w2 .ix (.lst ds) (.int i) Q = ∃ d, L2.atI ds i = some d ∧ Q d := rfl
theorem e_ixt : w2 .ix (.tup ds) (.int i) Q = ∃ d, L2.atI ds i = some d ∧ Q d := rfl
theorem e_ixs : w2 .ix (.scr ns) (.int i) Q = ∃ d, L2.atI ns i = some d ∧ Q (.int d) := rfl
theorem e_ixt0 : w2 .ix (.tup (d :: ds)) (.int 0) Q = Q d := by
  apply propext
  constructor
  · rintro ⟨z, h, q⟩
    have e : L2.atI (d :: ds) 0 = some d := by simp [L2.atI, L2.ixN]
    rw [e] at h
    cases h
    exact q
  · exact fun q => ⟨d, by simp [L2.atI, L2.ixN], q⟩
theorem e_ixt1 : w2 .ix (.tup (x :: d :: ds)) (.int 1) Q = Q d := by
  apply propext
  have e : L2.atI (x :: d :: ds) 1 = some d := atI_nn (xs := x :: d :: ds) (k := 1) (x := d) rfl
  constructor
  · rintro ⟨z, h, q⟩
    rw [e] at h
    cases h
    exact q
  · exact fun q => ⟨d, e, q⟩
theorem e_ixt2 : w2 .ix (.tup (x :: y :: d :: ds)) (.int 2) Q = Q d := by
  apply propext
  have e : L2.atI (x :: y :: d :: ds) 2 = some d := atI_nn (xs := x :: y :: d :: ds) (k := 2) (x := d) rfl
  constructor
  · rintro ⟨z, h, q⟩
    rw [e] at h
    cases h
    exact q
  · exact fun q => ⟨d, e, q⟩
theorem e_max : w2 .max (.int i) (.int j) Q = Q (.int (if j > i then j else i)) := rfl
theorem e_min : w2 .min (.int i) (.int j) Q = Q (.int (if j < i then j else i)) := rfl
theorem e_test {P : Bool → Prop} : wtest (.bl t) P = P t := rfl
theorem e_seql {R : List D → Prop} : wseq (.lst ds) R = R ds := rfl
theorem e_seqt {R : List D → Prop} : wseq (.tup ds) R = R ds := rfl
theorem e_seqs {R : List D → Prop} : wseq (.scr ns) R = R (ns.map .int) := rfl
theorem e_rng {R : List D → Prop} : wrng (.int j) R = ((-(2 ^ 62) ≤ j ∧ j < 2 ^ 62) ∧ R (rngD 0 j.toNat)) := rfl
theorem e_rng2 {R : List D → Prop} : wrng2 (.int i) (.int j) R = ((-(2 ^ 62) ≤ i ∧ i < 2 ^ 62 ∧ -(2 ^ 62) ≤ j ∧ j < 2 ^ 62) ∧ R (rngD i (j - i).toNat)) := rfl
theorem e_zipl {R : List D → Prop} : wzip (.lst ds) (.lst es) R = R (zipD ds es) := rfl
theorem e_zipt {R : List D → Prop} : wzip (.tup ds) (.lst es) R = R (zipD ds es) := rfl
theorem e_ziptt {R : List D → Prop} : wzip (.tup ds) (.tup es) R = R (zipD ds es) := rfl
theorem e_sll {lo hi : Option Int} : wsl (.lst ds) lo hi Q = Q (.lst (cutL ds lo hi)) := rfl
theorem e_slt {lo hi : Option Int} : wsl (.tup ds) lo hi Q = Q (.tup (cutL ds lo hi)) := rfl
theorem e_sls {lo hi : Option Int} : wsl (.scr ns) lo hi Q = Q (.lst ((cutL ns lo hi).map .int)) := rfl
theorem e_nm {k : Nat} {δ : Env} {P : Env → Prop} : binds (.nm k) x δ P = P (st δ k (.vl x)) := by cases x <;> rfl
theorem e_pr {k l : Nat} {δ : Env} {P : Env → Prop} : binds (.pr k l) (.tup [x, y]) δ P = P (st (st δ k (.vl x)) l (.vl y)) := rfl
end
theorem wB_nil {G : Gm} {k : Kt} {δ : Env} {b : Ob} : wB G .nil k δ b = k.nx δ b := rfl
end LK

/-! Loops over data. -/
namespace LK
open PySem
/-- a comprehension that maps -/
theorem wmap_map {step : D → Ob → (Option D → Ob → Prop) → Prop} {f : D → D} {b : Ob} {Q : List D → Ob → Prop} : ∀ {xs acc : List D}, (∀ x ∈ xs, ∀ R : Option D → Ob → Prop, R (some (f x)) b → step x b R) → Q (acc ++ xs.map f) b → wmap step xs acc b Q
  | [], acc, _, h => by
    rw [List.map_nil, List.append_nil] at h
    exact h
  | x :: xs, acc, hs, h => hs x List.mem_cons_self _ (wmap_map (xs := xs) (acc := acc ++ [f x]) (fun y hy => hs y (List.mem_cons_of_mem _ hy)) (by
    rw [List.append_assoc]
    exact h))
/-- .. that may leave items out -/
theorem wmap_filterMap {step : D → Ob → (Option D → Ob → Prop) → Prop} {f : D → Option D} {b : Ob} {Q : List D → Ob → Prop} : ∀ {xs acc : List D}, (∀ x ∈ xs, ∀ R : Option D → Ob → Prop, R (f x) b → step x b R) → Q (acc ++ xs.filterMap f) b → wmap step xs acc b Q
  | [], acc, _, h => by
    rw [List.filterMap_nil, List.append_nil] at h
    exact h
  | x :: xs, acc, hs, h => hs x List.mem_cons_self _ (by
    cases e : f x with
    | none =>
      refine wmap_filterMap (xs := xs) (acc := acc) (fun y hy => hs y (List.mem_cons_of_mem _ hy)) ?_
      rw [List.filterMap_cons_none e] at h
      exact h
    | some d =>
      refine wmap_filterMap (xs := xs) (acc := acc ++ [d]) (fun y hy => hs y (List.mem_cons_of_mem _ hy)) ?_
      rw [List.filterMap_cons_some e] at h
      rw [List.append_assoc]
      exact h)
/-- a loop with an invariant over what is done -/
theorem wfor_inv {step : D → Env → Ob → (Env → Ob → Prop) → Prop} {Q : Env → Ob → Prop} (I : List D → Env → Ob → Prop) : ∀ {xs : List D} (done : List D) {δ : Env} {b : Ob}, I done δ b →
    (∀ pre x post δ b, done ++ xs = pre ++ x :: post → I pre δ b → ∀ R : Env → Ob → Prop, (∀ δ' b', I (pre ++ [x]) δ' b' → R δ' b') → step x δ b R) → (∀ δ b, I (done ++ xs) δ b → Q δ b) → wfor step xs δ b Q
  | [], done, δ, b, h, _, hq => hq δ b (by rw [List.append_nil]; exact h)
  | x :: xs, done, δ, b, h, hs, hq => hs done x xs δ b rfl h _ fun δ' b' h' => wfor_inv I (xs := xs) (done ++ [x]) h'
    (fun pre y post δ b e => hs pre y post δ b (by rw [← e, List.append_assoc]; rfl)) fun δ b h => hq δ b (by rw [List.append_assoc] at h; exact h)
end LK

/-! Loops over typed data. -/
namespace LK
open PySem
theorem rngD_eq (n : Nat) : rngD 0 n = (List.range n).map fun k : Nat => D.int (k : Int) := by
  unfold rngD
  exact List.map_congr_left fun k _ => by simp
theorem wfor_map {α : Type} {step : D → Env → Ob → (Env → Ob → Prop) → Prop} {Q : Env → Ob → Prop} (enc : α → D) (I : List α → Env → Ob → Prop) {xs : List α} {δ : Env} {b : Ob} (h0 : I [] δ b)
    (hs : ∀ pre x post, xs = pre ++ x :: post → ∀ δ b, I pre δ b → ∀ R : Env → Ob → Prop, (∀ δ' b', I (pre ++ [x]) δ' b' → R δ' b') → step (enc x) δ b R) (hq : ∀ δ b, I xs δ b → Q δ b) : wfor step (xs.map enc) δ b Q := by
  suffices gen : ∀ (post done : List α) (δ : Env) (b : Ob), xs = done ++ post → I done δ b → wfor step (post.map enc) δ b Q from gen xs [] δ b rfl h0
  intro post
  induction post with
  | nil =>
    intro done δ b e h
    rw [List.append_nil] at e
    subst e
    exact hq δ b h
  | cons x post ih =>
    intro done δ b e h
    exact hs done x post e δ b h _ fun δ' b' h' => ih (done ++ [x]) δ' b' (by rw [e, List.append_assoc]; rfl) h'
theorem wfor_range {step : D → Env → Ob → (Env → Ob → Prop) → Prop} {Q : Env → Ob → Prop} (I : Nat → Env → Ob → Prop) {n : Nat} {δ : Env} {b : Ob} (h0 : I 0 δ b)
    (hs : ∀ k, k < n → ∀ δ b, I k δ b → ∀ R : Env → Ob → Prop, (∀ δ' b', I (k + 1) δ' b' → R δ' b') → step (.int (k : Int)) δ b R) (hq : ∀ δ b, I n δ b → Q δ b) : wfor step (rngD 0 n) δ b Q := by
  rw [rngD_eq]
  refine wfor_map (fun k : Nat => D.int (k : Int)) (fun pre => I pre.length) h0 (fun pre x post e δ b h R hR => ?_) fun δ b h => hq δ b (by rw [List.length_range] at h; exact h)
  have hl : pre.length < n := by
    have := congrArg List.length e
    simp at this
    omega
  have hx : x = pre.length := by
    have h1 : (List.range n)[pre.length]? = some x := by rw [e]; simp
    rw [List.getElem?_range hl] at h1
    exact (Option.some.inj h1).symm
  subst hx
  exact hs _ hl δ b h R fun δ' b' h' => hR δ' b' (by rw [List.length_append]; exact h')
theorem wmap_enc {α : Type} {step : D → Ob → (Option D → Ob → Prop) → Prop} {b : Ob} {Q : List D → Ob → Prop} (enc g : α → D) {xs : List α} {acc : List D} (hs : ∀ x ∈ xs, ∀ R : Option D → Ob → Prop, R (some (g x)) b → step (enc x) b R) (h : Q (acc ++ xs.map g) b) : wmap step (xs.map enc) acc b Q := by
  induction xs generalizing acc with
  | nil =>
    rw [List.map_nil, List.append_nil] at h
    exact h
  | cons x xs ih =>
    refine hs x List.mem_cons_self _ (ih (acc := acc ++ [g x]) (fun y hy => hs y (List.mem_cons_of_mem _ hy)) ?_)
    rw [List.append_assoc]
    exact h
theorem wmap_e {α : Type} {step : D → Ob → (Option D → Ob → Prop) → Prop} {b : Ob} {Q : List D → Ob → Prop} (enc g : α → D) {xs : List α} (hs : ∀ x ∈ xs, ∀ R : Option D → Ob → Prop, R (some (g x)) b → step (enc x) b R) (h : Q (xs.map g) b) : wmap step (xs.map enc) [] b Q :=
  wmap_enc enc g hs (by rw [List.nil_append]; exact h)
theorem wmap_range {step : D → Ob → (Option D → Ob → Prop) → Prop} {b : Ob} {Q : List D → Ob → Prop} (g : Nat → D) {n : Nat} (hs : ∀ k, k < n → ∀ R : Option D → Ob → Prop, R (some (g k)) b → step (.int (k : Int)) b R) (h : Q ((List.range n).map g) b) : wmap step (rngD 0 n) [] b Q := by
  rw [rngD_eq]
  exact wmap_e (fun k : Nat => D.int (k : Int)) g (fun x hx => hs x (by simpa using hx)) h
/-- a comprehension that may leave items out -/
theorem wmap_filt {α : Type} {step : D → Ob → (Option D → Ob → Prop) → Prop} {b : Ob} {Q : List D → Ob → Prop} (enc g : α → D) (p : α → Bool) {xs : List α} {acc : List D} (hs : ∀ x ∈ xs, ∀ R : Option D → Ob → Prop, R (if p x then some (g x) else none) b → step (enc x) b R) (h : Q (acc ++ (xs.filter p).map g) b) : wmap step (xs.map enc) acc b Q := by
  induction xs generalizing acc with
  | nil =>
    rw [List.filter_nil, List.map_nil, List.append_nil] at h
    exact h
  | cons x xs ih =>
    refine hs x List.mem_cons_self _ ?_
    cases e : p x with
    | true =>
      rw [List.filter_cons_of_pos e] at h
      rw [if_pos rfl]
      refine ih (acc := acc ++ [g x]) (fun y hy => hs y (List.mem_cons_of_mem _ hy)) ?_
      rw [List.append_assoc]
      exact h
    | false =>
      rw [List.filter_cons_of_neg (by rw [e]; exact Bool.false_ne_true)] at h
      rw [if_neg Bool.false_ne_true]
      exact ih (acc := acc) (fun y hy => hs y (List.mem_cons_of_mem _ hy)) h
/-- a comprehension over what may be anything of a kind -/
theorem wmap_any {α β : Type} {step : D → Ob → (Option D → Ob → Prop) → Prop} {b : Ob} {Q : List D → Ob → Prop} (enc : α → D) (enc' : β → D) (P : α → β → Prop) {xs : List α} {acc : List D}
    (hs : ∀ x ∈ xs, ∀ R : Option D → Ob → Prop, (∀ y, P x y → R (some (enc' y)) b) → step (enc x) b R) (h : ∀ ys : List β, ys.length = xs.length → (∀ (k : Nat) (x : α) (y : β), xs[k]? = some x → ys[k]? = some y → P x y) → Q (acc ++ ys.map enc') b) : wmap step (xs.map enc) acc b Q := by
  induction xs generalizing acc with
  | nil => simpa [wmap] using h [] rfl (by simp)
  | cons x xs ih =>
    refine hs x List.mem_cons_self _ fun y hy => ih (acc := acc ++ [enc' y]) (fun z hz => hs z (List.mem_cons_of_mem _ hz)) fun ys hl hp => ?_
    have := h (y :: ys) (by simp [hl]) (fun k a c h1 h2 => by
      cases k with
      | zero =>
        simp at h1 h2
        subst h1 h2
        exact hy
      | succ k => exact hp k a c (by simpa using h1) (by simpa using h2))
    rw [List.append_assoc]
    exact this
theorem wmap_rangeP {β : Type} {step : D → Ob → (Option D → Ob → Prop) → Prop} {b : Ob} {Q : List D → Ob → Prop} (enc' : β → D) (P : Nat → β → Prop) {n : Nat}
    (hs : ∀ k, k < n → ∀ R : Option D → Ob → Prop, (∀ y, P k y → R (some (enc' y)) b) → step (.int (k : Int)) b R) (h : ∀ ys : List β, ys.length = n → (∀ (k : Nat) (y : β), ys[k]? = some y → P k y) → Q (ys.map enc') b) : wmap step (rngD 0 n) [] b Q := by
  rw [rngD_eq]
  refine wmap_any (fun k : Nat => D.int (k : Int)) enc' P (fun x hx => hs x (by simpa using hx)) fun ys hl hp => ?_
  rw [List.nil_append]
  rw [List.length_range] at hl
  exact h ys hl fun k y hk => hp k k y (by
    have : k < ys.length := (List.getElem?_eq_some_iff.mp hk).1
    exact List.getElem?_range (by omega)) hk
theorem zipD_map {α β : Type} (f : α → D) (g : β → D) : ∀ (xs : List α) (ys : List β), zipD (xs.map f) (ys.map g) = (xs.zip ys).map fun p => .tup [f p.1, g p.2]
  | [], ys => by simp [zipD]
  | x :: xs, [] => by simp [zipD]
  | x :: xs, y :: ys => by
    simp only [List.map_cons, zipD, List.zip_cons_cons]
    rw [zipD_map f g xs ys]
theorem atI_mapD {α : Type} {f : α → D} {xs : List α} {k : Nat} (d : α) (h : k < xs.length) : L2.atI (xs.map f) (k : Int) = some (f (xs.getD k d)) := by
  apply atI_nn
  rw [List.getElem?_map, List.getElem?_eq_getElem h]
  simp [List.getD, h]
theorem ix_l {α : Type} {f : α → D} {xs : List α} {k : Nat} {Q : D → Prop} (d : α) (h : k < xs.length) (q : Q (f (xs.getD k d))) : w2 .ix (.lst (xs.map f)) (.int (k : Int)) Q := ⟨_, atI_mapD d h, q⟩
theorem ix_t {α : Type} {f : α → D} {xs : List α} {k : Nat} {Q : D → Prop} (d : α) (h : k < xs.length) (q : Q (f (xs.getD k d))) : w2 .ix (.tup (xs.map f)) (.int (k : Int)) Q := ⟨_, atI_mapD d h, q⟩
theorem len_map {α : Type} {f : α → D} {xs : List α} : (((xs.map f).length : Nat) : Int) = xs.length := by rw [List.length_map]
/-! ### equality with truths -/
mutual
/-- neither scripts nor objects -/
def clD : D → Bool
  | .tup ds => clDs ds
  | .lst ds => clDs ds
  | .scr _ => false
  | .brd _ => false
  | _ => true
def clDs : List D → Bool
  | [] => true
  | d :: ds => clD d && clDs ds
end
theorem clD_brd {d : D} (h : clD d = true) : isBrdD d = false := by cases d <;> first | rfl | cases h
theorem clDs_mem : ∀ {ds : List D}, clDs ds = true → ∀ d ∈ ds, clD d = true
  | [], _, d, h => by simp at h
  | e :: es, h, d, hd => by
    simp only [clDs, Bool.and_eq_true] at h
    rcases List.mem_cons.mp hd with q | q
    · rw [q]; exact h.1
    · exact clDs_mem h.2 d q
theorem clDs_of : ∀ {ds : List D}, (∀ d ∈ ds, clD d = true) → clDs ds = true
  | [], _ => rfl
  | e :: es, h => by
    simp only [clDs, Bool.and_eq_true]
    exact ⟨h e (by simp), clDs_of fun d hd => h d (by simp [hd])⟩
end LK
namespace LK
open PySem
def tk : Nat → Sms → Sms
  | 0, _ => .nil
  | _ + 1, .nil => .nil
  | n + 1, .cons s r => .cons s (tk n r)
def dp : Nat → Sms → Sms
  | 0, r => r
  | _ + 1, .nil => .nil
  | n + 1, .cons _ r => dp n r
/-- a body in two parts -/
theorem wB_split {G : Gm} : ∀ (n : Nat) {B : Sms} {k : Kt} {δ : Env} {b : Ob}, wB G (tk n B) { k with nx := fun δ' b' => wB G (dp n B) k δ' b' } δ b → wB G B k δ b
  | 0, B, k, δ, b, h => by simpa only [tk, dp, wB] using h
  | n + 1, .nil, k, δ, b, h => by simpa only [tk, dp, wB] using h
  | n + 1, .cons s r, k, δ, b, h => by
    simp only [tk, dp, wB] at h ⊢
    have e : (fun δ' b' => wB G r k δ' b') = fun δ' b' => wB G r k δ' b' := rfl
    have key : ∀ δ' b', wB G (tk n r) { k with nx := fun δ' b' => wB G (dp n r) k δ' b' } δ' b' = wB G r k δ' b' := fun δ' b' => propext (wB_split_iff n r k δ' b')
    simp only [key] at h
    exact h
where
  wB_split_iff : ∀ (n : Nat) (r : Sms) (k : Kt) (δ : Env) (b : Ob), wB G (tk n r) { k with nx := fun δ' b' => wB G (dp n r) k δ' b' } δ b ↔ wB G r k δ b
  | 0, r, k, δ, b => by simp only [tk, dp, wB]
  | n + 1, .nil, k, δ, b => by simp only [tk, dp, wB]
  | n + 1, .cons s r, k, δ, b => by
    simp only [tk, dp, wB]
    have key : ∀ δ' b', wB G (tk n r) { k with nx := fun δ' b' => wB G (dp n r) k δ' b' } δ' b' = wB G r k δ' b' := fun δ' b' => propext (wB_split_iff n r k δ' b')
    simp only [key]
theorem wfor_idx {α : Type} {step : D → Env → Ob → (Env → Ob → Prop) → Prop} {Q : Env → Ob → Prop} (enc : α → D) (d : α) (I : Nat → Env → Ob → Prop) {xs : List α} {δ : Env} {b : Ob} (h0 : I 0 δ b)
    (hs : ∀ k, k < xs.length → ∀ δ b, I k δ b → ∀ R : Env → Ob → Prop, (∀ δ' b', I (k + 1) δ' b' → R δ' b') → step (enc (xs.getD k d)) δ b R) (hq : ∀ δ b, I xs.length δ b → Q δ b) : wfor step (xs.map enc) δ b Q := by
  refine wfor_map enc (fun pre => I pre.length) h0 (fun pre x post e δ b h R hR => ?_) hq
  have hl : pre.length < xs.length := by rw [e]; simp
  have hx : xs.getD pre.length d = x := by rw [e]; simp [List.getD]
  rw [← hx]
  exact hs _ hl δ b h R fun δ' b' h' => hR δ' b' (by rw [List.length_append]; exact h')
end LK

namespace LK
open PySem
/- 0: _law_number -/
def N_0 : List Str := (["_law_cell", "_law_wide", "_law_number_here"] : List Str)
def B_0 : Sms := (.cons (.asg 2 (.op2 .mod (.var 0) (.op2 .add (.op2 .mul (.cst (.int 2)) (.var 1)) (.cst (.int 1))))) (.cons (.ite (.op2 .gt (.var 2) (.var 1)) (.cons (.ret (.op2 .sub (.op2 .sub (.var 2) (.op2 .mul (.cst (.int 2)) (.var 1))) (.cst (.int 1)))) .nil) .nil) (.cons (.ret (.var 2)) .nil)))
/- 1: _law_cell_at -/
def N_1 : List Str := (["_law_script", "_law_k"] : List Str)
def B_1 : Sms := (.cons (.ite (.op2 .lt (.var 1) (.op1 .len (.var 0))) (.cons (.ret (.op2 .ix (.var 0) (.var 1))) .nil) .nil) (.cons (.ite (.op2 .eq (.var 0) (.lst .nil)) (.cons (.ret (.cst (.int 0))) .nil) .nil) (.cons (.ret (.op2 .add (.op2 .mul (.op2 .ix (.var 0) (.op2 .mod (.var 1) (.op1 .len (.var 0)))) (.cst (.int 31))) (.var 1))) .nil)))
/- 2: _law_drawn -/
def N_2 : List Str := (["_law_script", "_law_at", "_law_upper", "_law_lower"] : List Str)
def B_2 : Sms := (.cons (.asg 2 (.call 0 (.cons (.call 1 (.cons (.var 0) (.cons (.var 1) .nil))) (.cons (.op2 .ix (.lst (.cons (.cst (.int 4)) (.cons (.op2 .pow (.cst (.int 10)) (.cst (.int 20))) .nil))) (.op2 .mod (.call 1 (.cons (.var 0) (.cons (.op2 .add (.var 1) (.cst (.int 1))) .nil))) (.cst (.int 2)))) .nil)))) (.cons (.asg 3 (.op2 .add (.cst (.int 1)) (.op2 .mod (.call 1 (.cons (.var 0) (.cons (.op2 .add (.var 1) (.cst (.int 2))) .nil))) (.op2 .ix (.lst (.cons (.cst (.int 9)) (.cons (.op2 .pow (.cst (.int 10)) (.cst (.int 20))) .nil))) (.op2 .mod (.call 1 (.cons (.var 0) (.cons (.op2 .add (.var 1) (.cst (.int 3))) .nil))) (.cst (.int 2))))))) (.cons (.ite (.op2 .eq (.op2 .mod (.call 1 (.cons (.var 0) (.cons (.op2 .add (.var 1) (.cst (.int 4))) .nil))) (.cst (.int 2))) (.cst (.int 1))) (.cons (.asg 3 (.op1 .neg (.var 3))) .nil) .nil) (.cons (.ret (.tup (.cons (.var 2) (.cons (.var 3) .nil)))) .nil))))
/- 3: divisor -/
def N_3 : List Str := (["a", "b", "left"] : List Str)
def B_3 : Sms := (.cons (.asg 0 (.op1 .abs (.var 0))) (.cons (.asg 1 (.op1 .abs (.var 1))) (.cons (.whil (.op2 .ne (.var 1) (.cst (.int 0))) (.cons (.asg 2 (.op2 .mod (.var 0) (.var 1))) (.cons (.asg 0 (.var 1)) (.cons (.asg 1 (.var 2)) .nil)))) (.cons (.ret (.var 0)) .nil))))
/- 4: frac -/
def N_4 : List Str := (["upper", "lower", "same"] : List Str)
def B_4 : Sms := (.cons (.ite (.op2 .lt (.var 1) (.cst (.int 0))) (.cons (.asg 0 (.op1 .neg (.var 0))) (.cons (.asg 1 (.op1 .neg (.var 1))) .nil)) .nil) (.cons (.asg 2 (.call 3 (.cons (.var 0) (.cons (.var 1) .nil)))) (.cons (.ret (.tup (.cons (.op2 .fdiv (.var 0) (.var 2)) (.cons (.op2 .fdiv (.var 1) (.var 2)) .nil)))) .nil)))
/- 5: below -/
def N_5 : List Str := (["a", "b"] : List Str)
def B_5 : Sms := (.cons (.ret (.op2 .lt (.op2 .mul (.op2 .ix (.var 0) (.cst (.int 0))) (.op2 .ix (.var 1) (.cst (.int 1)))) (.op2 .mul (.op2 .ix (.var 1) (.cst (.int 0))) (.op2 .ix (.var 0) (.cst (.int 1)))))) .nil)
/- 6: _law_divisor -/
def N_6 : List Str := (["_law_a", "_law_b", "_law_left"] : List Str)
def B_6 : Sms := (.cons (.asg 0 (.op1 .abs (.var 0))) (.cons (.asg 1 (.op1 .abs (.var 1))) (.cons (.whil (.op2 .ne (.var 1) (.cst (.int 0))) (.cons (.asg 2 (.op2 .mod (.var 0) (.var 1))) (.cons (.asg 0 (.var 1)) (.cons (.asg 1 (.var 2)) .nil)))) (.cons (.ret (.var 0)) .nil))))
/- 7: _law_whole -/
def N_7 : List Str := (["_law_found"] : List Str)
def B_7 : Sms := (.cons (.ret (.and (.op1 .isInt (.var 0)) (.one (.not (.op1 .isBool (.var 0)))))) .nil)
/- 8: _law_is_fraction -/
def N_8 : List Str := (["_law_found"] : List Str)
def B_8 : Sms := (.cons (.ite (.or (.not (.op1 .isTup (.var 0))) (.one (.op2 .ne (.op1 .len (.var 0)) (.cst (.int 2))))) (.cons (.ret (.cst (.bl false))) .nil) .nil) (.cons (.ite (.or (.not (.call 7 (.cons (.op2 .ix (.var 0) (.cst (.int 0))) .nil))) (.or (.not (.call 7 (.cons (.op2 .ix (.var 0) (.cst (.int 1))) .nil))) (.one (.op2 .lt (.op2 .ix (.var 0) (.cst (.int 1))) (.cst (.int 1)))))) (.cons (.ret (.cst (.bl false))) .nil) .nil) (.cons (.ret (.op2 .eq (.call 6 (.cons (.op2 .ix (.var 0) (.cst (.int 0))) (.cons (.op2 .ix (.var 0) (.cst (.int 1))) .nil))) (.cst (.int 1)))) .nil)))
/- 9: _law_is -/
def N_9 : List Str := (["_law_found", "_law_upper", "_law_lower"] : List Str)
def B_9 : Sms := (.cons (.ret (.and (.call 8 (.cons (.var 0) .nil)) (.one (.op2 .eq (.op2 .mul (.op2 .ix (.var 0) (.cst (.int 0))) (.var 2)) (.op2 .mul (.var 1) (.op2 .ix (.var 0) (.cst (.int 1)))))))) .nil)
/- 10: plus -/
def N_10 : List Str := (["a", "b"] : List Str)
def B_10 : Sms := (.cons (.ret (.call 4 (.cons (.op2 .add (.op2 .mul (.op2 .ix (.var 0) (.cst (.int 0))) (.op2 .ix (.var 1) (.cst (.int 1)))) (.op2 .mul (.op2 .ix (.var 1) (.cst (.int 0))) (.op2 .ix (.var 0) (.cst (.int 1))))) (.cons (.op2 .mul (.op2 .ix (.var 0) (.cst (.int 1))) (.op2 .ix (.var 1) (.cst (.int 1)))) .nil)))) .nil)
/- 11: turned -/
def N_11 : List Str := (["a"] : List Str)
def B_11 : Sms := (.cons (.ret (.tup (.cons (.op1 .neg (.op2 .ix (.var 0) (.cst (.int 0)))) (.cons (.op2 .ix (.var 0) (.cst (.int 1))) .nil)))) .nil)
/- 12: less -/
def N_12 : List Str := (["a", "b"] : List Str)
def B_12 : Sms := (.cons (.ret (.call 10 (.cons (.var 0) (.cons (.call 11 (.cons (.var 1) .nil)) .nil)))) .nil)
/- 13: times -/
def N_13 : List Str := (["a", "b"] : List Str)
def B_13 : Sms := (.cons (.ret (.call 4 (.cons (.op2 .mul (.op2 .ix (.var 0) (.cst (.int 0))) (.op2 .ix (.var 1) (.cst (.int 0)))) (.cons (.op2 .mul (.op2 .ix (.var 0) (.cst (.int 1))) (.op2 .ix (.var 1) (.cst (.int 1)))) .nil)))) .nil)
/- 14: over -/
def N_14 : List Str := (["a", "b"] : List Str)
def B_14 : Sms := (.cons (.ret (.call 4 (.cons (.op2 .mul (.op2 .ix (.var 0) (.cst (.int 0))) (.op2 .ix (.var 1) (.cst (.int 1)))) (.cons (.op2 .mul (.op2 .ix (.var 0) (.cst (.int 1))) (.op2 .ix (.var 1) (.cst (.int 0)))) .nil)))) .nil)
/- 15: law -/
def N_15 : List Str := (["_law_script", "_law_one", "_law_other", "_law_a", "_law_b", "_law_both", "_law_cross", "_law_crossed", "_law_said"] : List Str)
def B_15 : Sms := (.cons (.asg 1 (.call 2 (.cons (.var 0) (.cons (.cst (.int 0)) .nil)))) (.cons (.asg 2 (.call 2 (.cons (.var 0) (.cons (.cst (.int 5)) .nil)))) (.cons (.asg 3 (.call 4 (.cons (.op2 .ix (.var 1) (.cst (.int 0))) (.cons (.op2 .ix (.var 1) (.cst (.int 1))) .nil)))) (.cons (.asg 4 (.call 4 (.cons (.op2 .ix (.var 2) (.cst (.int 0))) (.cons (.op2 .ix (.var 2) (.cst (.int 1))) .nil)))) (.cons (.ite (.or (.not (.call 9 (.cons (.var 3) (.cons (.op2 .ix (.var 1) (.cst (.int 0))) (.cons (.op2 .ix (.var 1) (.cst (.int 1))) .nil))))) (.one (.not (.call 9 (.cons (.var 4) (.cons (.op2 .ix (.var 2) (.cst (.int 0))) (.cons (.op2 .ix (.var 2) (.cst (.int 1))) .nil))))))) (.cons (.ret (.cst (.bl false))) .nil) .nil) (.cons (.asg 5 (.op2 .mul (.op2 .ix (.var 1) (.cst (.int 1))) (.op2 .ix (.var 2) (.cst (.int 1))))) (.cons (.asg 6 (.op2 .mul (.op2 .ix (.var 1) (.cst (.int 0))) (.op2 .ix (.var 2) (.cst (.int 1))))) (.cons (.asg 7 (.op2 .mul (.op2 .ix (.var 2) (.cst (.int 0))) (.op2 .ix (.var 1) (.cst (.int 1))))) (.cons (.ite (.or (.not (.call 9 (.cons (.call 10 (.cons (.var 3) (.cons (.var 4) .nil))) (.cons (.op2 .add (.var 6) (.var 7)) (.cons (.var 5) .nil))))) (.one (.not (.call 9 (.cons (.call 12 (.cons (.var 3) (.cons (.var 4) .nil))) (.cons (.op2 .sub (.var 6) (.var 7)) (.cons (.var 5) .nil))))))) (.cons (.ret (.cst (.bl false))) .nil) .nil) (.cons (.ite (.or (.not (.call 9 (.cons (.call 13 (.cons (.var 3) (.cons (.var 4) .nil))) (.cons (.op2 .mul (.op2 .ix (.var 1) (.cst (.int 0))) (.op2 .ix (.var 2) (.cst (.int 0)))) (.cons (.var 5) .nil))))) (.one (.not (.call 9 (.cons (.call 11 (.cons (.var 3) .nil)) (.cons (.op1 .neg (.op2 .ix (.var 1) (.cst (.int 0)))) (.cons (.op2 .ix (.var 1) (.cst (.int 1))) .nil))))))) (.cons (.ret (.cst (.bl false))) .nil) .nil) (.cons (.ite (.and (.op2 .ne (.op2 .ix (.var 2) (.cst (.int 0))) (.cst (.int 0))) (.one (.not (.call 9 (.cons (.call 14 (.cons (.var 3) (.cons (.var 4) .nil))) (.cons (.var 6) (.cons (.var 7) .nil))))))) (.cons (.ret (.cst (.bl false))) .nil) .nil) (.cons (.asg 8 (.call 5 (.cons (.var 3) (.cons (.var 4) .nil)))) (.cons (.ret (.and (.op1 .isBool (.var 8)) (.one (.op2 .eq (.var 8) (.op2 .lt (.op2 .mul (.op2 .ix (.var 3) (.cst (.int 0))) (.op2 .ix (.var 4) (.cst (.int 1)))) (.op2 .mul (.op2 .ix (.var 4) (.cst (.int 0))) (.op2 .ix (.var 3) (.cst (.int 1))))))))) .nil)))))))))))))

end LK
namespace LK
open PySem
local macro_rules | `(tactic| trivial) => `(tactic| simp only [wB, wS, wE, wEs, wO, wC, wSrc, e_neg, e_abs, e_lent, e_lenl, e_lens, e_lenS, e_tupt, e_tupl, e_lstt, e_lstl, e_inti, e_intb, e_str, e_isInt, e_isBool, e_isTup, e_isLst, e_isStr, e_isN, e_notN, e_add, e_sub, e_mul, e_fdiv, e_mod, e_pow, e_lt, e_le, e_gt, e_ge, e_eqi, e_nei, e_cat, e_tcat, e_ixl, e_ixs, e_ixt0, e_ixt1, e_ixt2, e_max, e_min, e_test, e_seql, e_seqt, e_seqs, e_rng, e_rng2, e_zipl, e_zipt, e_ziptt, e_sll, e_slt, e_sls, e_nm, e_pr, gt, st, ent, List.map, List.replicate, List.length, List.cons_append, List.nil_append, kOf, Nat.sub_self, Nat.add_one_sub_one, Nat.reduceAdd, Nat.reduceSub, reduceCtorEq, decide_eq_true_eq, Bool.not_eq_true', decide_eq_false_iff_not, if_true, if_false, Bool.false_eq_true, ite_true, ite_false])
/-! ### divisor -/
def sp_3 : FSp := fun ds b Q E => ∃ i j : Int, ds = [.int i, .int j] ∧ Q (.int (Int.gcd i j)) b
theorem len_3 (ds b Q E) (h : sp_3 ds b Q E) : ds.length = 2 := by
  obtain ⟨i, j, rfl, _⟩ := h
  rfl
theorem meets_3 {G : Gm} (r : G.fr 3 = false) : ∀ ds b Q E, sp_3 ds b Q E → wB G B_3 (kOf (G.fr 3) Q E) (ent N_3.length ds) b := by
  rintro ds b Q E ⟨i, j, rfl, hQ⟩
  unfold B_3 N_3
  trivial
  refine ⟨fun m δ b' => ∃ (x : Nat) (s : Sl), δ = [.vl (.int x), .vl (.int m), s] ∧ Nat.gcd x m = Int.gcd i j ∧ b' = b, ⟨_, _, _, rfl, rfl, rfl⟩, ?_⟩
  rintro y δ _ ⟨x, s, rfl, hg, rfl⟩
  trivial
  refine L2.ite2 (fun h => ?_) fun h => ?_
  · have hy : 0 < y := by omega
    refine ⟨h, x % y, Nat.mod_lt _ hy, y, .vl (.int ((x : Int).fmod y)), ?_, ?_, True.intro⟩
    · rw [fmod_pos (by omega)]
      rfl
    · rw [← hg, Nat.gcd_comm y, ← Nat.gcd_rec, Nat.gcd_comm]
  · have h0 : y = 0 := by omega
    subst h0
    left
    simpa [← hg] using hQ
/-! ### fractions -/
theorem fr_mk {u l : Int} (h : 0 < l) : fr (Rat.divInt u l) = .tup [.int (u.fdiv (Int.gcd u l)), .int (l.fdiv (Int.gcd u l))] := by
  have hg : 0 < Int.gcd u l := Int.gcd_pos_of_ne_zero_right _ (by omega)
  unfold fr
  rw [Rat.num_divInt, Rat.den_divInt, if_neg (by omega), fdiv_pos (by omega), fdiv_pos (by omega), Int.sign_eq_one_of_pos h, Int.one_mul, Int.gcd_comm l u]
  congr 4
  rw [Int.natCast_ediv]
  congr 1
  omega
def sp_4 : FSp := fun ds b Q E => ∃ u l : Int, ds = [.int u, .int l] ∧ l ≠ 0 ∧ l.natAbs < 2 ^ 8990 ∧ Q (fr (Rat.divInt u l)) b
theorem len_4 (ds b Q E) (h : sp_4 ds b Q E) : ds.length = 2 := by
  obtain ⟨i, j, rfl, _⟩ := h
  rfl
theorem gcd_small {u l : Int} (h : l ≠ 0) (hl : l.natAbs < 2 ^ 8990) : DivOk (Int.gcd u l) := by
  have h1 : Int.gcd u l ∣ l.natAbs := Nat.gcd_dvd_right _ _
  have h2 := Nat.le_of_dvd (by omega) h1
  have h3 : 0 < Int.gcd u l := Int.gcd_pos_of_ne_zero_right u h
  exact DivOk.of (a := 8990) (by omega) (by rw [Int.natAbs_natCast]; exact Nat.lt_of_le_of_lt h2 hl) (by decide)
theorem meets_4 {G : Gm} (h3 : G.sp 3 = sp_3) (r : G.fr 4 = false) : ∀ ds b Q E, sp_4 ds b Q E → wB G B_4 (kOf (G.fr 4) Q E) (ent N_4.length ds) b := by
  rintro ds b Q E ⟨u, l, rfl, h0, hl, hQ⟩
  unfold B_4 N_4
  trivial
  refine L2.ite2 (fun h => ?_) fun h => ?_
  · rw [h3]
    refine ⟨_, _, rfl, ?_⟩
    have hd := gcd_small (u := -u) (l := -l) (by omega) (by rw [Int.natAbs_neg]; exact hl)
    refine ⟨hd, hd, .inl ?_⟩
    rw [← fr_mk (by omega), Rat.neg_divInt_neg]
    exact hQ
  · rw [h3]
    refine ⟨_, _, rfl, ?_⟩
    have hd := gcd_small (u := u) h0 hl
    refine ⟨hd, hd, .inl ?_⟩
    rw [← fr_mk (by omega)]
    exact hQ
/-! ### the law's cells -/
def isScr (d : D) (ns : List Int) : Prop := d = .scr ns ∨ d = .lst (ns.map .int)
def sp_0 : FSp := fun ds b Q E => ∃ c w : Int, ds = [.int c, .int w] ∧ 0 ≤ w ∧ ∀ n : Int, -w ≤ n → n ≤ w → Q (.int n) b
theorem len_0 (ds b Q E) (h : sp_0 ds b Q E) : ds.length = 2 := by
  obtain ⟨i, j, rfl, _⟩ := h
  rfl
theorem meets_0 {G : Gm} (r : G.fr 0 = false) : ∀ ds b Q E, sp_0 ds b Q E → wB G B_0 (kOf (G.fr 0) Q E) (ent N_0.length ds) b := by
  rintro ds b Q E ⟨c, w, rfl, hw, hQ⟩
  unfold B_0 N_0
  trivial
  refine ⟨MulOk.l (by decide), by omega, ?_⟩
  have h1 : c.fmod (2 * w + 1) = c % (2 * w + 1) := fmod_pos (by omega)
  have h2 := Int.emod_nonneg c (show 2 * w + 1 ≠ 0 by omega)
  have h3 := Int.emod_lt_of_pos c (show 0 < 2 * w + 1 by omega)
  rw [h1]
  refine L2.ite2 (fun h => ⟨MulOk.l (by decide), .inl (hQ _ ?_ ?_)⟩) fun h => .inl (hQ _ ?_ ?_) <;> omega
def sp_1 : FSp := fun ds b Q E => ∃ (s : D) (ns : List Int) (k : Int), ds = [s, .int k] ∧ isScr s ns ∧ 0 ≤ k ∧ ∀ n : Int, Q (.int n) b
theorem len_1 (ds b Q E) (h : sp_1 ds b Q E) : ds.length = 2 := by
  obtain ⟨s, ns, j, rfl, _⟩ := h
  rfl
theorem atI_ex {α : Type} {xs : List α} {k : Int} (h0 : 0 ≤ k) (h : k < xs.length) : ∃ x, L2.atI xs k = some x := by
  have hk : k.toNat < xs.length := by omega
  refine ⟨xs[k.toNat], ?_⟩
  have := atI_nn (List.getElem?_eq_getElem hk)
  have e : ((k.toNat : Nat) : Int) = k := by omega
  rwa [e] at this
theorem meets_1 {G : Gm} (r : G.fr 1 = false) : ∀ ds b Q E, sp_1 ds b Q E → wB G B_1 (kOf (G.fr 1) Q E) (ent N_1.length ds) b := by
  rintro ds b Q E ⟨s, ns, k, rfl, hs, hk, hQ⟩
  unfold B_1 N_1
  rcases hs with rfl | rfl
  · trivial
    refine L2.ite2 (fun h => ?_) fun h => ?_
    · obtain ⟨x, hx⟩ := atI_ex hk h
      exact ⟨x, hx, .inl (hQ _)⟩
    · refine ⟨rfl, rfl, L2.ite2 (fun h0 => .inl (hQ _)) fun h0 => ?_⟩
      rw [eqD_scr_nil] at h0
      have hl : 0 < ns.length := List.length_pos_iff.mpr h0
      refine ⟨by omega, ?_⟩
      obtain ⟨x, hx⟩ := atI_ex (xs := ns) (k := k.fmod ns.length) (by rw [fmod_pos (by omega)]; exact Int.emod_nonneg _ (by omega)) (by rw [fmod_pos (by omega)]; exact Int.emod_lt_of_pos _ (by omega))
      exact ⟨x, hx, MulOk.r (by decide), .inl (hQ _)⟩
  · trivial
    refine L2.ite2 (fun h => ?_) fun h => ?_
    · obtain ⟨x, hx⟩ := atI_ex (xs := ns) hk (by simpa using h)
      exact ⟨_, at_map hx, .inl (hQ _)⟩
    · refine ⟨cmpOks_ints ns 19, rfl, L2.ite2 (fun h0 => .inl (hQ _)) fun h0 => ?_⟩
      rw [eqD_iff (.lst (ns.map .int)) (.lst []) (plDs_ints ns) rfl] at h0
      have h1 : ns ≠ [] := fun z => h0 (by rw [z]; rfl)
      have hl : 0 < ns.length := List.length_pos_iff.mpr h1
      have e : (((ns.map D.int).length : Nat) : Int) = ns.length := by rw [List.length_map]
      rw [e]
      refine ⟨by omega, ?_⟩
      obtain ⟨x, hx⟩ := atI_ex (xs := ns) (k := k.fmod ns.length) (by rw [fmod_pos (by omega)]; exact Int.emod_nonneg _ (by omega)) (by rw [fmod_pos (by omega)]; exact Int.emod_lt_of_pos _ (by omega))
      exact ⟨_, at_map hx, MulOk.r (by decide), .inl (hQ _)⟩
end LK

namespace LK
open PySem
local macro_rules | `(tactic| trivial) => `(tactic| simp only [wB, wS, wE, wEs, wO, wC, wSrc, e_neg, e_abs, e_lent, e_lenl, e_lens, e_lenS, e_tupt, e_tupl, e_lstt, e_lstl, e_inti, e_intb, e_str, e_isInt, e_isBool, e_isTup, e_isLst, e_isStr, e_isN, e_notN, e_add, e_sub, e_mul, e_fdiv, e_mod, e_pow, e_lt, e_le, e_gt, e_ge, e_eqi, e_nei, e_cat, e_tcat, e_ixl, e_ixs, e_ixt0, e_ixt1, e_ixt2, e_max, e_min, e_test, e_seql, e_seqt, e_seqs, e_rng, e_rng2, e_zipl, e_zipt, e_ziptt, e_sll, e_slt, e_sls, e_nm, e_pr, gt, st, ent, List.map, List.replicate, List.length, List.cons_append, List.nil_append, kOf, Nat.sub_self, Nat.add_one_sub_one, Nat.reduceAdd, Nat.reduceSub, reduceCtorEq, decide_eq_true_eq, Bool.not_eq_true', decide_eq_false_iff_not, if_true, if_false, Bool.false_eq_true, ite_true, ite_false])
/-! ### arithmetic of fractions -/
theorem Sz.num {n : Nat} {r : Rat} (h : Sz n r) : r.num.natAbs < 2 ^ n := h.1
theorem Sz.den {n : Nat} {r : Rat} (h : Sz n r) : ((r.den : Nat) : Int).natAbs < 2 ^ n := by rw [Int.natAbs_natCast]; exact h.2
theorem Sz.mono {n m : Nat} {r : Rat} (h : Sz n r) (hm : n ≤ m) : Sz m r := ⟨Nat.lt_of_lt_of_le h.1 (Nat.pow_le_pow_right (by decide) hm), Nat.lt_of_lt_of_le h.2 (Nat.pow_le_pow_right (by decide) hm)⟩
theorem Sz.neg {n : Nat} {r : Rat} (h : Sz n r) : Sz n (-r) := ⟨by rw [Rat.neg_num, Int.natAbs_neg]; exact h.1, h.2⟩
theorem den_ne (r : Rat) : ((r.den : Nat) : Int) ≠ 0 := by have := r.den_nz; omega
theorem add_divInt (a b : Rat) : Rat.divInt (a.num * b.den + b.num * a.den) (a.den * b.den) = a + b := by
  rw [Rat.add_def', ← Rat.divInt_ofNat, Int.natCast_mul]
theorem mul_divInt (a b : Rat) : Rat.divInt (a.num * b.num) (a.den * b.den) = a * b := by
  rw [Rat.mul_def', ← Rat.divInt_ofNat, Int.natCast_mul]
theorem div_divInt (a b : Rat) : Rat.divInt (a.num * b.den) (a.den * b.num) = a / b := by
  rw [Rat.div_def, Rat.inv_def]
  conv => rhs; rw [← Rat.num_divInt_den a]
  rw [Rat.divInt_mul_divInt]
theorem num_eq {n d : Int} (h : d ≠ 0) : (Rat.divInt n d).num * d = n * (Rat.divInt n d).den := by
  have := Rat.num_divInt_den (Rat.divInt n d)
  rwa [Rat.divInt_eq_divInt_iff (den_ne _) h] at this
def sp_5 : FSp := fun ds b Q E => ∃ x y : Rat, ds = [fr x, fr y] ∧ Sz 4000 x ∧ Sz 4000 y ∧ Q (.bl (decide (x < y))) b
theorem len_5 (ds b Q E) (h : sp_5 ds b Q E) : ds.length = 2 := by
  obtain ⟨i, j, rfl, _⟩ := h
  rfl
theorem meets_5 {G : Gm} (r : G.fr 5 = false) : ∀ ds b Q E, sp_5 ds b Q E → wB G B_5 (kOf (G.fr 5) Q E) (ent N_5.length ds) b := by
  rintro ds b Q E ⟨x, y, rfl, hx, hy, hQ⟩
  unfold B_5 N_5 fr
  trivial
  refine ⟨MulOk.of hx.num hy.den (by decide), MulOk.of hy.num hx.den (by decide), .inl ?_⟩
  have e : decide (x.num * ↑y.den < y.num * ↑x.den) = decide (x < y) := decide_eq_decide.mpr (Rat.lt_iff x y).symm
  rw [e]
  exact hQ
def sp_10 : FSp := fun ds b Q E => ∃ x y : Rat, ds = [fr x, fr y] ∧ Sz 4000 x ∧ Sz 4000 y ∧ Q (fr (x + y)) b
theorem len_10 (ds b Q E) (h : sp_10 ds b Q E) : ds.length = 2 := by
  obtain ⟨i, j, rfl, _⟩ := h
  rfl
theorem big8 {i j : Int} {a b : Nat} (hi : i.natAbs < 2 ^ a) (hj : j.natAbs < 2 ^ b) (h : a + b ≤ 8990) : (i * j).natAbs < 2 ^ 8990 := Nat.lt_of_lt_of_le (natAbs_mul_lt hi hj) (Nat.pow_le_pow_right (by decide) h)
theorem meets_10 {G : Gm} (h4 : G.sp 4 = sp_4) (r : G.fr 10 = false) : ∀ ds b Q E, sp_10 ds b Q E → wB G B_10 (kOf (G.fr 10) Q E) (ent N_10.length ds) b := by
  rintro ds b Q E ⟨x, y, rfl, hx, hy, hQ⟩
  unfold B_10 N_10 fr
  trivial
  rw [h4]
  refine ⟨MulOk.of hx.num hy.den (by decide), MulOk.of hy.num hx.den (by decide), MulOk.of hx.den hy.den (by decide), _, _, rfl, Int.mul_ne_zero (den_ne x) (den_ne y), big8 hx.den hy.den (by decide), .inl ?_⟩
  rw [add_divInt]
  exact hQ
def sp_11 : FSp := fun ds b Q E => ∃ x : Rat, ds = [fr x] ∧ Q (fr (-x)) b
theorem len_11 (ds b Q E) (h : sp_11 ds b Q E) : ds.length = 1 := by
  obtain ⟨i, rfl, _⟩ := h
  rfl
theorem meets_11 {G : Gm} (r : G.fr 11 = false) : ∀ ds b Q E, sp_11 ds b Q E → wB G B_11 (kOf (G.fr 11) Q E) (ent N_11.length ds) b := by
  rintro ds b Q E ⟨x, rfl, hQ⟩
  unfold B_11 N_11 fr
  trivial
  exact .inl hQ
def sp_12 : FSp := fun ds b Q E => ∃ x y : Rat, ds = [fr x, fr y] ∧ Sz 4000 x ∧ Sz 4000 y ∧ Q (fr (x - y)) b
theorem len_12 (ds b Q E) (h : sp_12 ds b Q E) : ds.length = 2 := by
  obtain ⟨i, j, rfl, _⟩ := h
  rfl
theorem meets_12 {G : Gm} (h10 : G.sp 10 = sp_10) (h11 : G.sp 11 = sp_11) (r : G.fr 12 = false) : ∀ ds b Q E, sp_12 ds b Q E → wB G B_12 (kOf (G.fr 12) Q E) (ent N_12.length ds) b := by
  rintro ds b Q E ⟨x, y, rfl, hx, hy, hQ⟩
  unfold B_12 N_12
  trivial
  rw [h10, h11]
  refine ⟨y, rfl, x, -y, rfl, hx, hy.neg, .inl ?_⟩
  rw [← Rat.sub_eq_add_neg]
  exact hQ
def sp_13 : FSp := fun ds b Q E => ∃ x y : Rat, ds = [fr x, fr y] ∧ Sz 4000 x ∧ Sz 4000 y ∧ Q (fr (x * y)) b
theorem len_13 (ds b Q E) (h : sp_13 ds b Q E) : ds.length = 2 := by
  obtain ⟨i, j, rfl, _⟩ := h
  rfl
theorem meets_13 {G : Gm} (h4 : G.sp 4 = sp_4) (r : G.fr 13 = false) : ∀ ds b Q E, sp_13 ds b Q E → wB G B_13 (kOf (G.fr 13) Q E) (ent N_13.length ds) b := by
  rintro ds b Q E ⟨x, y, rfl, hx, hy, hQ⟩
  unfold B_13 N_13 fr
  trivial
  rw [h4]
  refine ⟨MulOk.of hx.num hy.num (by decide), MulOk.of hx.den hy.den (by decide), _, _, rfl, Int.mul_ne_zero (den_ne x) (den_ne y), big8 hx.den hy.den (by decide), .inl ?_⟩
  rw [mul_divInt]
  exact hQ
def sp_14 : FSp := fun ds b Q E => ∃ x y : Rat, ds = [fr x, fr y] ∧ y ≠ 0 ∧ Sz 4000 x ∧ Sz 4000 y ∧ Q (fr (x / y)) b
theorem len_14 (ds b Q E) (h : sp_14 ds b Q E) : ds.length = 2 := by
  obtain ⟨i, j, rfl, _⟩ := h
  rfl
theorem num_ne {y : Rat} (h : y ≠ 0) : y.num ≠ 0 := fun z => h (Rat.num_eq_zero.mp z)
theorem meets_14 {G : Gm} (h4 : G.sp 4 = sp_4) (r : G.fr 14 = false) : ∀ ds b Q E, sp_14 ds b Q E → wB G B_14 (kOf (G.fr 14) Q E) (ent N_14.length ds) b := by
  rintro ds b Q E ⟨x, y, rfl, h0, hx, hy, hQ⟩
  unfold B_14 N_14 fr
  trivial
  rw [h4]
  refine ⟨MulOk.of hx.num hy.den (by decide), MulOk.of hx.den hy.num (by decide), _, _, rfl, Int.mul_ne_zero (den_ne x) (num_ne h0), big8 hx.den hy.num (by decide), .inl ?_⟩
  rw [div_divInt]
  exact hQ
end LK

namespace LK
open PySem
local macro_rules | `(tactic| trivial) => `(tactic| simp only [wB, wS, wE, wEs, wO, wC, wSrc, e_neg, e_abs, e_lent, e_lenl, e_lens, e_lenS, e_tupt, e_tupl, e_lstt, e_lstl, e_inti, e_intb, e_str, e_isInt, e_isBool, e_isTup, e_isLst, e_isStr, e_isN, e_notN, e_add, e_sub, e_mul, e_fdiv, e_mod, e_pow, e_lt, e_le, e_gt, e_ge, e_eqi, e_nei, e_cat, e_tcat, e_ixl, e_ixs, e_ixt0, e_ixt1, e_ixt2, e_max, e_min, e_test, e_seql, e_seqt, e_seqs, e_rng, e_rng2, e_zipl, e_zipt, e_ziptt, e_sll, e_slt, e_sls, e_nm, e_pr, gt, st, ent, List.map, List.replicate, List.length, List.cons_append, List.nil_append, kOf, Nat.sub_self, Nat.add_one_sub_one, Nat.reduceAdd, Nat.reduceSub, reduceCtorEq, decide_eq_true_eq, Bool.not_eq_true', decide_eq_false_iff_not, if_true, if_false, Bool.false_eq_true, ite_true, ite_false])
/-! ### k01 -/
def sp_6 : FSp := sp_3
theorem len_6 (ds b Q E) (h : sp_6 ds b Q E) : ds.length = 2 := len_3 ds b Q E h
theorem meets_6 {G : Gm} (r : G.fr 6 = false) : ∀ ds b Q E, sp_6 ds b Q E → wB G B_6 (kOf (G.fr 6) Q E) (ent N_6.length ds) b := by
  rintro ds b Q E ⟨i, j, rfl, hQ⟩
  unfold B_6 N_6
  trivial
  refine ⟨fun m δ b' => ∃ (x : Nat) (s : Sl), δ = [.vl (.int x), .vl (.int m), s] ∧ Nat.gcd x m = Int.gcd i j ∧ b' = b, ⟨_, _, _, rfl, rfl, rfl⟩, ?_⟩
  rintro y δ _ ⟨x, s, rfl, hg, rfl⟩
  trivial
  refine L2.ite2 (fun h => ?_) fun h => ?_
  · have hy : 0 < y := by omega
    refine ⟨h, x % y, Nat.mod_lt _ hy, y, .vl (.int ((x : Int).fmod y)), ?_, ?_, True.intro⟩
    · rw [fmod_pos (by omega)]
      rfl
    · rw [← hg, Nat.gcd_comm y, ← Nat.gcd_rec, Nat.gcd_comm]
  · have h0 : y = 0 := by omega
    subst h0
    left
    simpa [← hg] using hQ
/-- a whole number, no truth -/
def isWh (d : D) : Bool := isIntD d && !isBoolD d
def sp_7 : FSp := fun ds b Q E => ∃ d, ds = [d] ∧ isBrdD d = false ∧ Q (.bl (isWh d)) b
theorem len_7 (ds b Q E) (h : sp_7 ds b Q E) : ds.length = 1 := by
  obtain ⟨i, rfl, _⟩ := h
  rfl
theorem meets_7 {G : Gm} (r : G.fr 7 = false) : ∀ ds b Q E, sp_7 ds b Q E → wB G B_7 (kOf (G.fr 7) Q E) (ent N_7.length ds) b := by
  rintro ds b Q E ⟨d, rfl, hd, hQ⟩
  unfold B_7 N_7
  trivial
  refine ⟨hd, iteb (fun h => ⟨hd, .inl ?_⟩) fun h => .inl ?_⟩
  · simpa [isWh, h] using hQ
  · simpa [isWh, h] using hQ
def isFrac : D → Bool
  | .tup [.int u, .int l] => decide (1 ≤ l) && decide (Int.gcd u l = 1)
  | _ => false
def noB1 : D → Bool
  | .tup ds => ds.all fun d => !isBrdD d
  | d => !isBrdD d
theorem isFrac_fr (r : Rat) : isFrac (fr r) = true := by
  have h1 := r.den_nz
  have h2 := r.reduced
  simp only [fr, isFrac, Bool.and_eq_true, decide_eq_true_eq]
  refine ⟨by omega, ?_⟩
  unfold Int.gcd
  rw [Int.natAbs_natCast]
  exact h2
theorem isWh_int {d : D} (h : isWh d = true) : ∃ i, d = .int i := by
  cases d <;> first | exact ⟨_, rfl⟩ | cases h
def sp_8 : FSp := fun ds b Q E => ∃ d, ds = [d] ∧ noB1 d = true ∧ Q (.bl (isFrac d)) b
theorem len_8 (ds b Q E) (h : sp_8 ds b Q E) : ds.length = 1 := by
  obtain ⟨i, rfl, _⟩ := h
  rfl
theorem meets_8 {G : Gm} (h6 : G.sp 6 = sp_6) (h7 : G.sp 7 = sp_7) (r : G.fr 8 = false) : ∀ ds b Q E, sp_8 ds b Q E → wB G B_8 (kOf (G.fr 8) Q E) (ent N_8.length ds) b := by
  rintro ds b Q E ⟨d, rfl, hd, hQ⟩
  have hb : isBrdD d = false := by cases d <;> first | rfl | simpa [noB1] using hd
  unfold B_8 N_8
  trivial
  refine ⟨hb, L2.ite2 (fun h => ?_) fun h => ?_⟩
  · have e : isFrac d = false := by cases d <;> first | rfl | simp [isTupD] at h
    exact .inl (by rw [e] at hQ; exact hQ)
  · have ht : ∃ es, d = .tup es := by cases d <;> first | exact ⟨_, rfl⟩ | simp [isTupD] at h
    obtain ⟨es, rfl⟩ := ht
    trivial
    refine L2.ite2 (fun h2 => ?_) fun h2 => ?_
    · have e : isFrac (.tup es) = false := by
        match es, h2 with
        | [], _ => rfl
        | [_], _ => simp [isFrac]
        | [_, _], h2 => exact absurd rfl h2
        | _ :: _ :: _ :: _, _ => simp [isFrac]
      exact .inl (by rw [e] at hQ; exact hQ)
    · have hl : es.length = 2 := by omega
      match es, hl, hd, hQ with
      | [x, y], _, hd, hQ =>
        have hx : isBrdD x = false := by simp [noB1] at hd; exact hd.1
        have hy : isBrdD y = false := by simp [noB1] at hd; exact hd.2
        trivial
        rw [h7, h6]
        refine ⟨x, rfl, hx, ?_⟩
        trivial
        refine L2.ite2 (fun q => ?_) fun q => ?_
        · have e : isFrac (.tup [x, y]) = false := by cases x <;> first | rfl | exact absurd q (by simp [isWh, isIntD, isBoolD]) | simp [isFrac]
          exact .inl (by rw [e] at hQ; exact hQ)
        · obtain ⟨u, rfl⟩ := isWh_int (by simpa using q)
          refine ⟨y, rfl, hy, ?_⟩
          trivial
          refine L2.ite2 (fun q => ?_) fun q => ?_
          · have e : isFrac (.tup [.int u, y]) = false := by cases y <;> first | rfl | exact absurd q (by simp [isWh, isIntD, isBoolD]) | simp [isFrac]
            exact .inl (by rw [e] at hQ; exact hQ)
          · obtain ⟨l, rfl⟩ := isWh_int (by simpa using q)
            trivial
            refine L2.ite2 (fun q => ?_) fun q => ?_
            · have e : isFrac (.tup [.int u, .int l]) = false := by
                simp [isFrac]
                omega
              exact .inl (by rw [e] at hQ; exact hQ)
            · refine ⟨u, l, rfl, ?_⟩
              trivial
              left
              have e : isFrac (.tup [.int u, .int l]) = decide (((Int.gcd u l : Nat) : Int) = 1) := by
                have hl1 : (1 : Int) ≤ l := by omega
                show (decide (1 ≤ l) && decide (Int.gcd u l = 1)) = _
                rw [decide_eq_true hl1, Bool.true_and]
                exact decide_eq_decide.mpr (by omega)
              rw [e] at hQ
              exact hQ
def sp_2 : FSp := fun ds b Q E => ∃ (s : D) (ns : List Int) (k : Int), ds = [s, .int k] ∧ isScr s ns ∧ 0 ≤ k ∧ ∀ u l : Int, u.natAbs < 2 ^ 70 → l ≠ 0 → l.natAbs < 2 ^ 70 → Q (.tup [.int u, .int l]) b
theorem len_2 (ds b Q E) (h : sp_2 ds b Q E) : ds.length = 2 := by
  obtain ⟨s, ns, j, rfl, _⟩ := h
  rfl
/-- one of two -/
theorem atI_two {c : Int} {x y : D} : ∃ d, L2.atI [x, y] (c.fmod 2) = some d ∧ (d = x ∨ d = y) := by
  rw [fmod_pos (by decide)]
  have h1 := Int.emod_nonneg c (show (2 : Int) ≠ 0 by decide)
  have h2 := Int.emod_lt_of_pos c (show (0 : Int) < 2 by decide)
  have h3 : c % 2 = 0 ∨ c % 2 = 1 := by omega
  rcases h3 with h | h <;> rw [h]
  · exact ⟨x, rfl, .inl rfl⟩
  · exact ⟨y, rfl, .inr rfl⟩
theorem meets_2 {G : Gm} (h0 : G.sp 0 = sp_0) (h1 : G.sp 1 = sp_1) (r : G.fr 2 = false) : ∀ ds b Q E, sp_2 ds b Q E → wB G B_2 (kOf (G.fr 2) Q E) (ent N_2.length ds) b := by
  rintro ds b Q E ⟨s, ns, k, rfl, hs, hk, hQ⟩
  unfold B_2 N_2
  trivial
  rw [h0, h1]
  refine ⟨s, ns, k, rfl, hs, hk, fun c0 => ?_⟩
  refine ⟨by decide, s, ns, k + 1, rfl, hs, by omega, fun c1 => ?_⟩
  trivial
  refine ⟨by decide, ?_⟩
  obtain ⟨d, e, hd⟩ := atI_two (c := c1) (x := .int 4) (y := .int (10 ^ Int.toNat 20))
  refine ⟨d, e, ?_⟩
  have hW : ∃ W : Int, d = .int W ∧ 0 ≤ W ∧ W ≤ 10 ^ 20 := by
    rcases hd with rfl | rfl
    · exact ⟨4, rfl, by decide, by decide⟩
    · exact ⟨_, rfl, by decide, by decide⟩
  obtain ⟨W, rfl, hW0, hW1⟩ := hW
  refine ⟨c0, W, rfl, hW0, fun u hu0 hu1 => ?_⟩
  refine ⟨s, ns, k + 2, rfl, hs, by omega, fun c2 => ⟨by decide, s, ns, k + 3, rfl, hs, by omega, fun c3 => ?_⟩⟩
  trivial
  refine ⟨by decide, ?_⟩
  obtain ⟨d, e, hd⟩ := atI_two (c := c3) (x := .int 9) (y := .int (10 ^ Int.toNat 20))
  refine ⟨d, e, ?_⟩
  have hW : ∃ W : Int, d = .int W ∧ 0 < W ∧ W ≤ 10 ^ 20 := by
    rcases hd with rfl | rfl
    · exact ⟨9, rfl, by decide, by decide⟩
    · exact ⟨_, rfl, by decide, by decide⟩
  obtain ⟨V, rfl, hV0, hV1⟩ := hW
  trivial
  refine ⟨by omega, s, ns, k + 4, rfl, hs, by omega, fun c4 => ?_⟩
  trivial
  have q1 := Int.emod_nonneg c2 (show V ≠ 0 by omega)
  have q2 := Int.emod_lt_of_pos c2 hV0
  rw [fmod_pos hV0]
  refine ⟨by decide, L2.ite2 (fun _ => .inl (hQ _ _ ?_ ?_ ?_)) fun _ => .inl (hQ _ _ ?_ ?_ ?_)⟩ <;> omega
end LK

namespace LK
open PySem
local macro_rules | `(tactic| trivial) => `(tactic| simp only [wB, wS, wE, wEs, wO, wC, wSrc, e_neg, e_abs, e_lent, e_lenl, e_lens, e_lenS, e_tupt, e_tupl, e_lstt, e_lstl, e_inti, e_intb, e_str, e_isInt, e_isBool, e_isTup, e_isLst, e_isStr, e_isN, e_notN, e_add, e_sub, e_mul, e_fdiv, e_mod, e_pow, e_lt, e_le, e_gt, e_ge, e_eqi, e_nei, e_cat, e_tcat, e_ixl, e_ixs, e_ixt0, e_ixt1, e_ixt2, e_max, e_min, e_test, e_seql, e_seqt, e_seqs, e_rng, e_rng2, e_zipl, e_zipt, e_ziptt, e_sll, e_slt, e_sls, e_nm, e_pr, gt, st, ent, List.map, List.replicate, List.length, List.cons_append, List.nil_append, kOf, Nat.sub_self, Nat.add_one_sub_one, Nat.reduceAdd, Nat.reduceSub, reduceCtorEq, decide_eq_true_eq, Bool.not_eq_true', decide_eq_false_iff_not, if_true, if_false, Bool.false_eq_true, ite_true, ite_false])
theorem noB1_fr (r : Rat) : noB1 (fr r) = true := rfl
def sp_9 : FSp := fun ds b Q E => ∃ (r : Rat) (u l : Int), ds = [fr r, .int u, .int l] ∧ Sz 1000 r ∧ u.natAbs < 2 ^ 1000 ∧ l.natAbs < 2 ^ 1000 ∧ Q (.bl (decide (r.num * l = u * r.den))) b
theorem len_9 (ds b Q E) (h : sp_9 ds b Q E) : ds.length = 3 := by
  obtain ⟨i, u, l, rfl, _⟩ := h
  rfl
theorem meets_9 {G : Gm} (h8 : G.sp 8 = sp_8) (r : G.fr 9 = false) : ∀ ds b Q E, sp_9 ds b Q E → wB G B_9 (kOf (G.fr 9) Q E) (ent N_9.length ds) b := by
  rintro ds b Q E ⟨x, u, l, rfl, hx, hu, hl, hQ⟩
  unfold B_9 N_9
  trivial
  rw [h8]
  refine ⟨fr x, rfl, rfl, ?_⟩
  rw [isFrac_fr]
  unfold fr
  trivial
  exact ⟨MulOk.of hx.num hl (by decide), MulOk.of hu hx.den (by decide), .inl hQ⟩
theorem sz_divInt {u l : Int} {n : Nat} (hl : l ≠ 0) (h1 : u.natAbs < 2 ^ n) (h2 : l.natAbs < 2 ^ n) : Sz n (Rat.divInt u l) := by
  constructor
  · rw [Rat.num_divInt, Int.natAbs_ediv_of_dvd]
    · refine Nat.lt_of_le_of_lt (Nat.div_le_self _ _) ?_
      rw [Int.natAbs_mul, Int.natAbs_sign_of_ne_zero hl, Nat.one_mul]
      exact h1
    · refine Int.dvd_trans (Int.gcd_dvd_right ..) (Int.dvd_mul_left ..)
  · rw [Rat.den_divInt, if_neg hl]
    exact Nat.lt_of_le_of_lt (Nat.div_le_self _ _) h2
theorem sz_add {x y : Rat} {n : Nat} (hx : Sz n x) (hy : Sz n y) : Sz (2 * n + 1) (x + y) := by
  rw [← add_divInt]
  refine sz_divInt (Int.mul_ne_zero (den_ne x) (den_ne y)) ?_ ?_
  · have h1 := natAbs_mul_lt hx.num hy.den
    have h2 := natAbs_mul_lt hy.num hx.den
    have h3 := natAbs_add_lt h1 h2
    rw [show 2 * n + 1 = n + n + 1 by omega]
    exact h3
  · exact Nat.lt_of_lt_of_le (natAbs_mul_lt hx.den hy.den) (Nat.pow_le_pow_right (by decide) (by omega))
theorem sz_sub {x y : Rat} {n : Nat} (hx : Sz n x) (hy : Sz n y) : Sz (2 * n + 1) (x - y) := by
  rw [Rat.sub_eq_add_neg]
  exact sz_add hx hy.neg
theorem sz_mul {x y : Rat} {n : Nat} (hx : Sz n x) (hy : Sz n y) : Sz (2 * n) (x * y) := by
  rw [← mul_divInt]
  exact sz_divInt (Int.mul_ne_zero (den_ne x) (den_ne y)) (by rw [show 2 * n = n + n by omega]; exact natAbs_mul_lt hx.num hy.num) (by rw [show 2 * n = n + n by omega]; exact natAbs_mul_lt hx.den hy.den)
theorem sz_div {x y : Rat} {n : Nat} (h0 : y ≠ 0) (hx : Sz n x) (hy : Sz n y) : Sz (2 * n) (x / y) := by
  rw [← div_divInt]
  exact sz_divInt (Int.mul_ne_zero (den_ne x) (num_ne h0)) (by rw [show 2 * n = n + n by omega]; exact natAbs_mul_lt hx.num hy.den) (by rw [show 2 * n = n + n by omega]; exact natAbs_mul_lt hx.den hy.num)
/-! ### the law -/
theorem num_of {r : Rat} {n d : Int} (h : d ≠ 0) (e : r = Rat.divInt n d) : r.num * d = n * r.den := by
  subst e
  exact num_eq h
theorem divInt_add {a b c d : Int} (hb : b ≠ 0) (hd : d ≠ 0) : Rat.divInt a b + Rat.divInt c d = Rat.divInt (a * d + c * b) (b * d) := Rat.divInt_add_divInt _ _ hb hd
theorem divInt_sub {a b c d : Int} (hb : b ≠ 0) (hd : d ≠ 0) : Rat.divInt a b - Rat.divInt c d = Rat.divInt (a * d - c * b) (b * d) := Rat.divInt_sub_divInt _ _ hb hd
theorem divInt_div {a b c d : Int} : Rat.divInt a b / Rat.divInt c d = Rat.divInt (a * d) (b * c) := by
  rw [Rat.div_def, Rat.inv_divInt, Rat.divInt_mul_divInt]
def sp_15 : FSp := fun ds b Q E => ∃ ns, ds = [.scr ns] ∧ Q (.bl true) b
theorem len_15 (ds b Q E) (h : sp_15 ds b Q E) : ds.length = 1 := by
  obtain ⟨i, rfl, _⟩ := h
  rfl
theorem law_15 (ns : List Int) (h : ns.length ≤ 63) : sp_15 [.scr ns] none (fun d _ => d = .bl true) fun _ => False := ⟨ns, rfl, rfl⟩
theorem meets_15 {G : Gm} (h2 : G.sp 2 = sp_2) (h4 : G.sp 4 = sp_4) (h5 : G.sp 5 = sp_5) (h9 : G.sp 9 = sp_9) (h10 : G.sp 10 = sp_10) (h11 : G.sp 11 = sp_11) (h12 : G.sp 12 = sp_12) (h13 : G.sp 13 = sp_13) (h14 : G.sp 14 = sp_14) (r : G.fr 15 = false) : ∀ ds b Q E, sp_15 ds b Q E → wB G B_15 (kOf (G.fr 15) Q E) (ent N_15.length ds) b := by
  rintro ds b Q E ⟨ns, rfl, hQ⟩
  unfold B_15 N_15
  trivial
  rw [h2, h4, h9, h10, h11, h12, h13, h14, h5]
  refine ⟨_, ns, 0, rfl, .inl rfl, by decide, fun u1 l1 hu1 h1 hl1 => ?_⟩
  refine ⟨_, ns, 5, rfl, .inl rfl, by decide, fun u2 l2 hu2 h2 hl2 => ?_⟩
  trivial
  have b1 : l1.natAbs < 2 ^ 8990 := Nat.lt_of_lt_of_le hl1 (Nat.pow_le_pow_right (by decide) (by decide))
  have b2 : l2.natAbs < 2 ^ 8990 := Nat.lt_of_lt_of_le hl2 (Nat.pow_le_pow_right (by decide) (by decide))
  refine ⟨u1, l1, rfl, h1, b1, ?_⟩
  trivial
  refine ⟨u2, l2, rfl, h2, b2, ?_⟩
  trivial
  have zx : Sz 70 (Rat.divInt u1 l1) := sz_divInt h1 hu1 hl1
  have zy : Sz 70 (Rat.divInt u2 l2) := sz_divInt h2 hu2 hl2
  have up : ∀ {i : Int} {n : Nat}, i.natAbs < 2 ^ n → n ≤ 1000 → i.natAbs < 2 ^ 1000 := fun h q => Nat.lt_of_lt_of_le h (Nat.pow_le_pow_right (by decide) q)
  refine ⟨_, _, _, rfl, zx.mono (by decide), up hu1 (by decide), up hl1 (by decide), ?_⟩
  rw [decide_eq_true (num_eq h1)]
  trivial
  refine ⟨_, _, _, rfl, zy.mono (by decide), up hu2 (by decide), up hl2 (by decide), ?_⟩
  rw [decide_eq_true (num_eq h2)]
  trivial
  have m : ∀ {i j : Int}, i.natAbs < 2 ^ 70 → j.natAbs < 2 ^ 70 → MulOk i j := fun h q => MulOk.of h q (by decide)
  have p : ∀ {i j : Int}, i.natAbs < 2 ^ 70 → j.natAbs < 2 ^ 70 → (i * j).natAbs < 2 ^ 140 := fun h q => natAbs_mul_lt h q
  have n0 := Int.mul_ne_zero h1 h2
  refine ⟨m hl1 hl2, m hu1 hl2, m hu2 hl1, _, _, rfl, zx.mono (by decide), zy.mono (by decide), ?_⟩
  refine ⟨_, _, _, rfl, (sz_add zx zy).mono (by decide), up (natAbs_add_lt (p hu1 hl2) (p hu2 hl1)) (by decide), up (p hl1 hl2) (by decide), ?_⟩
  rw [decide_eq_true (num_of n0 (divInt_add h1 h2))]
  trivial
  refine ⟨_, _, rfl, zx.mono (by decide), zy.mono (by decide), ?_⟩
  refine ⟨_, _, _, rfl, (sz_sub zx zy).mono (by decide), up (by rw [Int.sub_eq_add_neg]; exact natAbs_add_lt (p hu1 hl2) (by rw [Int.natAbs_neg]; exact p hu2 hl1)) (by decide), up (p hl1 hl2) (by decide), ?_⟩
  rw [decide_eq_true (num_of n0 (divInt_sub h1 h2))]
  trivial
  refine ⟨_, _, rfl, zx.mono (by decide), zy.mono (by decide), m hu1 hu2, ?_⟩
  refine ⟨_, _, _, rfl, (sz_mul zx zy).mono (by decide), up (p hu1 hu2) (by decide), up (p hl1 hl2) (by decide), ?_⟩
  rw [decide_eq_true (num_of n0 (Rat.divInt_mul_divInt u1 u2))]
  trivial
  refine ⟨_, rfl, ?_⟩
  refine ⟨_, _, _, rfl, zx.neg.mono (by decide), up (by rw [Int.natAbs_neg]; exact hu1) (by decide), up hl1 (by decide), ?_⟩
  rw [decide_eq_true (num_of h1 (Rat.neg_divInt u1 l1))]
  trivial
  have fin : sp_5 [fr (Rat.divInt u1 l1), fr (Rat.divInt u2 l2)] b (fun d b1 => isBrdD d = false ∧ if isBoolD d = true then w2 O2.ix (fr (Rat.divInt u1 l1)) (D.int 0) fun z => w2 O2.ix (fr (Rat.divInt u2 l2)) (D.int 1) fun z_1 => w2 O2.mul z z_1 fun z => w2 O2.ix (fr (Rat.divInt u2 l2)) (D.int 0) fun z_2 => w2 O2.ix (fr (Rat.divInt u1 l1)) (D.int 1) fun z_3 => w2 O2.mul z_2 z_3 fun z_4 => w2 O2.lt z z_4 fun z => w2 O2.eq d z fun z => Q z b1 ∨ Q z none else Q (.bl false) b1 ∨ Q (.bl false) none) fun c => E c := by
    refine ⟨_, _, rfl, zx.mono (by decide), zy.mono (by decide), rfl, ?_⟩
    refine L2.iteT ?_
    unfold fr
    trivial
    refine ⟨MulOk.of zx.num zy.den (by decide), MulOk.of zy.num zx.den (by decide), ?_⟩
    rw [e_eq]
    refine ⟨rfl, rfl, .inl ?_⟩
    have e : decide ((Rat.divInt u1 l1).num * ((Rat.divInt u2 l2).den : Int) < (Rat.divInt u2 l2).num * ((Rat.divInt u1 l1).den : Int)) = decide (Rat.divInt u1 l1 < Rat.divInt u2 l2) := decide_eq_decide.mpr (Rat.lt_iff _ _).symm
    rw [e]
    have e2 : ∀ t : Bool, eqD (.bl t) (.bl t) = true := fun t => by cases t <;> rfl
    rw [e2]
    exact hQ
  refine L2.ite2 (fun hz => ?_) fun _ => fin
  have hy0 : Rat.divInt u2 l2 ≠ 0 := fun z => by
    have q := num_eq (n := u2) h2
    rw [z] at q
    have q2 : u2 * ((0 : Rat).den : Int) = 0 := by rw [← q]; exact Int.zero_mul _
    exact hz (by simpa using q2)
  refine ⟨_, _, rfl, hy0, zx.mono (by decide), zy.mono (by decide), ?_⟩
  refine ⟨_, _, _, rfl, (sz_div hy0 zx zy).mono (by decide), up (p hu1 hl2) (by decide), up (p hu2 hl1) (by decide), ?_⟩
  rw [Int.mul_comm u2 l1, decide_eq_true (num_of (Int.mul_ne_zero h1 hz) divInt_div)]
  trivial
  exact fin
end LK

namespace LK.Kk01
open PySem PySem.Spec PyProof.Rows L2
def M : Nms where
  fn := fun i => match i with | 0 => "_law_number" | 1 => "_law_cell_at" | 2 => "_law_drawn" | 3 => "divisor" | 4 => "frac" | 5 => "below" | 6 => "_law_divisor" | 7 => "_law_whole" | 8 => "_law_is_fraction" | 9 => "_law_is" | 10 => "plus" | 11 => "turned" | 12 => "less" | 13 => "times" | 14 => "over" | 15 => "law" | _ => "?"
  gl := fun i => match i with  | _ => "?"
  ex := fun i => match i with  | _ => "?"
  bd := "Board"
  hf := fun i => ([0, 1, 2, 3, 4, 5, 6, 7, 8, 9, 10, 11, 12, 13, 14, 15] : List Nat).contains i
  hm := fun i => ([] : List Nat).contains i
  hg := fun i => ([] : List Nat).contains i
  hc := fun i => ([] : List Nat).contains i
  hb := false
def G : Gm where
  sp := fun i => match i with | 0 => sp_0 | 1 => sp_1 | 2 => sp_2 | 3 => sp_3 | 4 => sp_4 | 5 => sp_5 | 6 => sp_6 | 7 => sp_7 | 8 => sp_8 | 9 => sp_9 | 10 => sp_10 | 11 => sp_11 | 12 => sp_12 | 13 => sp_13 | 14 => sp_14 | 15 => sp_15 | _ => fun _ _ _ _ => False
  fr := fun i => ([] : List Nat).contains i
  gc := fun i => match i with  | _ => .non
def S (K : PySem.W.Frag) : Sy := { G := G, M := M, ca := fun c => He.ga K (M.ex c), bc := He.ga K "Board" }
theorem sc_0 : FnScope N_0 (["_law_cell", "_law_wide"] : List Str) (defScope t_0) := ⟨rfl, rfl, rfl, by decide +kernel, rfl, by decide +kernel, by decide +kernel⟩
theorem ch_0 : chkB ((S default).upto 0).M N_0 G.fr (G.fr 0) (defScope t_0) B_0 (defBody t_0) = true := by decide +kernel
theorem sc_1 : FnScope N_1 (["_law_script", "_law_k"] : List Str) (defScope t_1) := ⟨rfl, rfl, rfl, by decide +kernel, rfl, by decide +kernel, by decide +kernel⟩
theorem ch_1 : chkB ((S default).upto 1).M N_1 G.fr (G.fr 1) (defScope t_1) B_1 (defBody t_1) = true := by decide +kernel
theorem sc_2 : FnScope N_2 (["_law_script", "_law_at"] : List Str) (defScope t_2) := ⟨rfl, rfl, rfl, by decide +kernel, rfl, by decide +kernel, by decide +kernel⟩
theorem ch_2 : chkB ((S default).upto 2).M N_2 G.fr (G.fr 2) (defScope t_2) B_2 (defBody t_2) = true := by decide +kernel
theorem sc_3 : FnScope N_3 (["a", "b"] : List Str) (defScope t_3) := ⟨rfl, rfl, rfl, by decide +kernel, rfl, by decide +kernel, by decide +kernel⟩
theorem ch_3 : chkB ((S default).upto 3).M N_3 G.fr (G.fr 3) (defScope t_3) B_3 (defBody t_3) = true := by decide +kernel
theorem sc_4 : FnScope N_4 (["upper", "lower"] : List Str) (defScope t_4) := ⟨rfl, rfl, rfl, by decide +kernel, rfl, by decide +kernel, by decide +kernel⟩
theorem ch_4 : chkB ((S default).upto 4).M N_4 G.fr (G.fr 4) (defScope t_4) B_4 (defBody t_4) = true := by decide +kernel
theorem sc_5 : FnScope N_5 (["a", "b"] : List Str) (defScope t_5) := ⟨rfl, rfl, rfl, by decide +kernel, rfl, by decide +kernel, by decide +kernel⟩
theorem ch_5 : chkB ((S default).upto 5).M N_5 G.fr (G.fr 5) (defScope t_5) B_5 (defBody t_5) = true := by decide +kernel
theorem sc_6 : FnScope N_6 (["_law_a", "_law_b"] : List Str) (defScope t_6) := ⟨rfl, rfl, rfl, by decide +kernel, rfl, by decide +kernel, by decide +kernel⟩
theorem ch_6 : chkB ((S default).upto 6).M N_6 G.fr (G.fr 6) (defScope t_6) B_6 (defBody t_6) = true := by decide +kernel
theorem sc_7 : FnScope N_7 (["_law_found"] : List Str) (defScope t_7) := ⟨rfl, rfl, rfl, by decide +kernel, rfl, by decide +kernel, by decide +kernel⟩
theorem ch_7 : chkB ((S default).upto 7).M N_7 G.fr (G.fr 7) (defScope t_7) B_7 (defBody t_7) = true := by decide +kernel
theorem sc_8 : FnScope N_8 (["_law_found"] : List Str) (defScope t_8) := ⟨rfl, rfl, rfl, by decide +kernel, rfl, by decide +kernel, by decide +kernel⟩
theorem ch_8 : chkB ((S default).upto 8).M N_8 G.fr (G.fr 8) (defScope t_8) B_8 (defBody t_8) = true := by decide +kernel
theorem sc_9 : FnScope N_9 (["_law_found", "_law_upper", "_law_lower"] : List Str) (defScope t_9) := ⟨rfl, rfl, rfl, by decide +kernel, rfl, by decide +kernel, by decide +kernel⟩
theorem ch_9 : chkB ((S default).upto 9).M N_9 G.fr (G.fr 9) (defScope t_9) B_9 (defBody t_9) = true := by decide +kernel
theorem sc_10 : FnScope N_10 (["a", "b"] : List Str) (defScope t_10) := ⟨rfl, rfl, rfl, by decide +kernel, rfl, by decide +kernel, by decide +kernel⟩
theorem ch_10 : chkB ((S default).upto 10).M N_10 G.fr (G.fr 10) (defScope t_10) B_10 (defBody t_10) = true := by decide +kernel
theorem sc_11 : FnScope N_11 (["a"] : List Str) (defScope t_11) := ⟨rfl, rfl, rfl, by decide +kernel, rfl, by decide +kernel, by decide +kernel⟩
theorem ch_11 : chkB ((S default).upto 11).M N_11 G.fr (G.fr 11) (defScope t_11) B_11 (defBody t_11) = true := by decide +kernel
theorem sc_12 : FnScope N_12 (["a", "b"] : List Str) (defScope t_12) := ⟨rfl, rfl, rfl, by decide +kernel, rfl, by decide +kernel, by decide +kernel⟩
theorem ch_12 : chkB ((S default).upto 12).M N_12 G.fr (G.fr 12) (defScope t_12) B_12 (defBody t_12) = true := by decide +kernel
theorem sc_13 : FnScope N_13 (["a", "b"] : List Str) (defScope t_13) := ⟨rfl, rfl, rfl, by decide +kernel, rfl, by decide +kernel, by decide +kernel⟩
theorem ch_13 : chkB ((S default).upto 13).M N_13 G.fr (G.fr 13) (defScope t_13) B_13 (defBody t_13) = true := by decide +kernel
theorem sc_14 : FnScope N_14 (["a", "b"] : List Str) (defScope t_14) := ⟨rfl, rfl, rfl, by decide +kernel, rfl, by decide +kernel, by decide +kernel⟩
theorem ch_14 : chkB ((S default).upto 14).M N_14 G.fr (G.fr 14) (defScope t_14) B_14 (defBody t_14) = true := by decide +kernel
theorem sc_15 : FnScope N_15 (["_law_script"] : List Str) (defScope t_15) := ⟨rfl, rfl, rfl, by decide +kernel, rfl, by decide +kernel, by decide +kernel⟩
theorem ch_15 : chkB ((S default).upto 15).M N_15 G.fr (G.fr 15) (defScope t_15) B_15 (defBody t_15) = true := by decide +kernel
section
variable {w : World} {K : PySem.W.Frag} {mg : Str → Option Value} {h base : Heap}
theorem bl_mem : ∀ x ∈ bltNames, He.Fa.free x ∈ fal := by simp [bltNames, fal]
theorem facts0 (X : K.In h) (G0 : h.Ns mainGlobals mg) (c : He.SaysX fal fnl [] [] exl w h K) : Facts PySem.Challenge.pw_limitdesk_k01_fractions w K mg base ((S K).upto 0) 1 := by
  have fa : ∀ f ∈ fal, f.ok K = true := fun f hf => He.SaysD.facts c.t.d hf
  have ex := c.more
  refine ⟨fun f hf => (by simp [Sy.upto] at hf), fun f hf => (by simp [Sy.upto] at hf), fun x hx => ?_, fun g hg => ?_, fun e he => ?_, fun e1 e2 h1 h2 => ?_, fun hb => ?_⟩
  · exact He.free_ok X G0 (fa (.free x) (bl_mem x hx))
  · have hg : ([] : List Nat).contains g = true := hg
    simp only [exl, Bool.and_eq_true] at ex
    cases hg
  · have he : ([] : List Nat).contains e = true := he
    cases he
  · have h1 : ([] : List Nat).contains e1 = true := h1
    have h2 : ([] : List Nat).contains e2 = true := h2
    cases h1
  · cases hb
theorem facts (X : K.In h) (G0 : h.Ns mainGlobals mg) (c : He.SaysX fal fnl [] [] exl w h K) : Facts PySem.Challenge.pw_limitdesk_k01_fractions w K mg base ((S K).upto 15) 31 := by
  have fa : ∀ f ∈ fal, f.ok K = true := fun f hf => He.SaysD.facts c.t.d hf
  have f := facts0 (base := base) X G0 c
  obtain ⟨fd, F⟩ := He.SaysD.defs c.t.d (d := d_0) (by simp [fnl])
  have f := f.step F sc_0 B_0 rfl (He.glo_ok X G0 (fa (.glo "_law_number") (by simp [fal]))) rfl (fun _ _ _ _ _ _ us hl => match us, hl with | [_, _], _ => rfl) ch_0 len_0 (meets_0 rfl)
  obtain ⟨fd, F⟩ := He.SaysD.defs c.t.d (d := d_1) (by simp [fnl])
  have f := f.step F sc_1 B_1 rfl (He.glo_ok X G0 (fa (.glo "_law_cell_at") (by simp [fal]))) rfl (fun _ _ _ _ _ _ us hl => match us, hl with | [_, _], _ => rfl) ch_1 len_1 (meets_1 rfl)
  obtain ⟨fd, F⟩ := He.SaysD.defs c.t.d (d := d_2) (by simp [fnl])
  have f := f.step F sc_2 B_2 rfl (He.glo_ok X G0 (fa (.glo "_law_drawn") (by simp [fal]))) rfl (fun _ _ _ _ _ _ us hl => match us, hl with | [_, _], _ => rfl) ch_2 len_2 (meets_2 rfl rfl rfl)
  obtain ⟨fd, F⟩ := He.SaysD.defs c.t.d (d := d_3) (by simp [fnl])
  have f := f.step F sc_3 B_3 rfl (He.glo_ok X G0 (fa (.glo "divisor") (by simp [fal]))) rfl (fun _ _ _ _ _ _ us hl => match us, hl with | [_, _], _ => rfl) ch_3 len_3 (meets_3 rfl)
  obtain ⟨fd, F⟩ := He.SaysD.defs c.t.d (d := d_4) (by simp [fnl])
  have f := f.step F sc_4 B_4 rfl (He.glo_ok X G0 (fa (.glo "frac") (by simp [fal]))) rfl (fun _ _ _ _ _ _ us hl => match us, hl with | [_, _], _ => rfl) ch_4 len_4 (meets_4 rfl rfl)
  obtain ⟨fd, F⟩ := He.SaysD.defs c.t.d (d := d_5) (by simp [fnl])
  have f := f.step F sc_5 B_5 rfl (He.glo_ok X G0 (fa (.glo "below") (by simp [fal]))) rfl (fun _ _ _ _ _ _ us hl => match us, hl with | [_, _], _ => rfl) ch_5 len_5 (meets_5 rfl)
  obtain ⟨fd, F⟩ := He.SaysD.defs c.t.d (d := d_6) (by simp [fnl])
  have f := f.step F sc_6 B_6 rfl (He.glo_ok X G0 (fa (.glo "_law_divisor") (by simp [fal]))) rfl (fun _ _ _ _ _ _ us hl => match us, hl with | [_, _], _ => rfl) ch_6 len_6 (meets_6 rfl)
  obtain ⟨fd, F⟩ := He.SaysD.defs c.t.d (d := d_7) (by simp [fnl])
  have f := f.step F sc_7 B_7 rfl (He.glo_ok X G0 (fa (.glo "_law_whole") (by simp [fal]))) rfl (fun _ _ _ _ _ _ us hl => match us, hl with | [_], _ => rfl) ch_7 len_7 (meets_7 rfl)
  obtain ⟨fd, F⟩ := He.SaysD.defs c.t.d (d := d_8) (by simp [fnl])
  have f := f.step F sc_8 B_8 rfl (He.glo_ok X G0 (fa (.glo "_law_is_fraction") (by simp [fal]))) rfl (fun _ _ _ _ _ _ us hl => match us, hl with | [_], _ => rfl) ch_8 len_8 (meets_8 rfl rfl rfl)
  obtain ⟨fd, F⟩ := He.SaysD.defs c.t.d (d := d_9) (by simp [fnl])
  have f := f.step F sc_9 B_9 rfl (He.glo_ok X G0 (fa (.glo "_law_is") (by simp [fal]))) rfl (fun _ _ _ _ _ _ us hl => match us, hl with | [_, _, _], _ => rfl) ch_9 len_9 (meets_9 rfl rfl)
  obtain ⟨fd, F⟩ := He.SaysD.defs c.t.d (d := d_10) (by simp [fnl])
  have f := f.step F sc_10 B_10 rfl (He.glo_ok X G0 (fa (.glo "plus") (by simp [fal]))) rfl (fun _ _ _ _ _ _ us hl => match us, hl with | [_, _], _ => rfl) ch_10 len_10 (meets_10 rfl rfl)
  obtain ⟨fd, F⟩ := He.SaysD.defs c.t.d (d := d_11) (by simp [fnl])
  have f := f.step F sc_11 B_11 rfl (He.glo_ok X G0 (fa (.glo "turned") (by simp [fal]))) rfl (fun _ _ _ _ _ _ us hl => match us, hl with | [_], _ => rfl) ch_11 len_11 (meets_11 rfl)
  obtain ⟨fd, F⟩ := He.SaysD.defs c.t.d (d := d_12) (by simp [fnl])
  have f := f.step F sc_12 B_12 rfl (He.glo_ok X G0 (fa (.glo "less") (by simp [fal]))) rfl (fun _ _ _ _ _ _ us hl => match us, hl with | [_, _], _ => rfl) ch_12 len_12 (meets_12 rfl rfl rfl)
  obtain ⟨fd, F⟩ := He.SaysD.defs c.t.d (d := d_13) (by simp [fnl])
  have f := f.step F sc_13 B_13 rfl (He.glo_ok X G0 (fa (.glo "times") (by simp [fal]))) rfl (fun _ _ _ _ _ _ us hl => match us, hl with | [_, _], _ => rfl) ch_13 len_13 (meets_13 rfl rfl)
  obtain ⟨fd, F⟩ := He.SaysD.defs c.t.d (d := d_14) (by simp [fnl])
  have f := f.step F sc_14 B_14 rfl (He.glo_ok X G0 (fa (.glo "over") (by simp [fal]))) rfl (fun _ _ _ _ _ _ us hl => match us, hl with | [_, _], _ => rfl) ch_14 len_14 (meets_14 rfl rfl)
  exact f
end
end LK.Kk01
open PySem PySem.W PySem.Calls PyProof.Rows
set_option maxRecDepth 100000 in
set_option maxHeartbeats 0 in
theorem PySem.Challenge.cw_limitdesk_k01_fractions_holds : PySem.Challenge.rw_limitdesk_k01_fractions.Holds := by
  w_on; o_law
  refine HandSHeadRun.head_any (r := OpenLaw.row PySem.Challenge.rw_limitdesk_k01_fractions) (q := view (OpenLaw.row PySem.Challenge.rw_limitdesk_k01_fractions).prog [17]) (H := LK.Kk01.hk) (ob := LK.Kk01.ob) (M := 1480) (loose := LK.Kk01.loose) (d := HandSHeadRun.topDef (OpenLaw.row PySem.Challenge.rw_limitdesk_k01_fractions).prog 17) (kwd := []) LK.Kk01.ob_eq
    (by kernel_rfl) (fun s => by kernel_rfl) LK.Kk01.run (by kernel_rfl) (by kernel_rfl) (by kernel_rfl) (by rfl) (by first | assumption | decide +kernel) (by decide +kernel) ⟨rfl, rfl, rfl, rfl, rfl, by decide +kernel⟩ ?hw ?hc
  case hw => w_witness2
  case hc =>
    refine LK.walk_lk (l := PySem.Challenge.rw_limitdesk_k01_fractions) (n := 63) (k := 33) (x := "_law_script") rfl (by decide) (by kernel_rfl) ⟨rfl, by decide, by decide⟩ ?F
    intro w mg fa h Y G hmg0
    obtain ⟨K, KX, c⟩ := Y
    have hmg : mg ("law" : PySem.Str) = some (.ref fa) := by
      have e : (HandSHeadRun.topDef (OpenLaw.row PySem.Challenge.rw_limitdesk_k01_fractions).prog 17).name = ("law" : PySem.Str) := by kernel_rfl
      rw [← e]
      exact hmg0
    obtain ⟨fd, F⟩ := He.SaysD.defs c.t.d (d := LK.Kk01.d_15) (by simp [LK.Kk01.fnl])
    have e := hmg.symm.trans (He.glo_ok KX G (He.SaysD.facts c.t.d (f := .glo "law") (by simp [LK.Kk01.fal])))
    cases e
    have b := L2.FunD.bindsA (ps := ["_law_script"]) F fun _ _ _ _ _ _ us hl => match us, hl with | [_], _ => rfl
    refine ⟨K, fd, LK.spOf K (LK.Kk01.S K) 15, KX, fun s v => b s [v] rfl, fun H a ns hl _ hS => LK.law_sp hS rfl (LK.law_15 ns hl), fun base _ _ => ?_⟩
    exact LK.fn_lk (S := (LK.Kk01.S K).upto 15) F LK.Kk01.sc_15 (LK.Kk01.facts (base := base) KX G c) LK.B_15 LK.Kk01.ch_15 LK.len_15 (LK.meets_15 rfl rfl rfl rfl rfl rfl rfl rfl rfl rfl)
#print axioms PySem.Challenge.cw_limitdesk_k01_fractions_holds
