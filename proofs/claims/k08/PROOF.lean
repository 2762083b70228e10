import PyProof.Rows.All
import Wide.All
import OpenK.AllK
import Wide.FinOn
import HandS.Base
import HandS.Call
import HandS.List
import PyProof.EqLayable
import HandS.Comp
import HandS.Iter
import HandS.Exc
import HandS.ExcOwn
import HandS.Ends
import HandS.Deep
import HandS.Text
import HandS.Words
import HandS.WordsList
import HandS.WordsExc
import HandS.IsInst
import HandS.ExcIs
import HandS.Wide
import HandS.TupAny
import HandS.Zip
import KE.GoesMore
import KE.GoesZip
import HandS.TryMany
import HandS.HeadEnd
import HandS.HeadHook4
import HandS.Defaults
import KE.KStateDown
import HandS.Head0
import HandS.Head1
import HandS.Head2
import HandS.HeadHook1
import HandS.HeadHook2
import PySem.Challenge.RW_limitdesk_k08_lean_desks
set_option Elab.async false
set_option linter.all false
set_option maxRecDepth 100000
set_option maxHeartbeats 1000000
namespace LK
open PySem PySem.Spec PyProof.Rows L2
def excB (K : PySem.W.Frag) (x : Str) : Bool :=
  decide (PySem.W.findIn K (.ref (He.ga K x)) "__getattribute__" = some (some (.builtin "BaseException.__getattribute__"))) && decide (PySem.W.findIn K (.ref (He.ga K x)) "__getattr__" = some none) && PySem.W.hasDictIn K (He.ga K x) &&
  decide (PySem.W.findIn K (.ref (He.ga K x)) "__class__" = some (some (.builtin "object.__class__"))) && decide (PySem.W.specialIn K (.builtin "object.__class__") "__get__" = some (some (.builtin "getset_descriptor.__get__"))) &&
  decide (PySem.W.takesIn K (.builtin "object.__class__") = some true) && decide (PySem.W.mroIn K (He.ga K x) (.type "object") = some true) && decide (PySem.W.kitOne K (.ref (He.ga K x)) (.type "ValueError") = some true)
end LK
namespace LK.Kk08
open PySem PySem.Spec PyProof.Rows L2
def top (i : Nat) : Stmt := PySem.Challenge.pw_limitdesk_k08_lean_desks.main.body.getD i (.Pass ⟨0, 0, 0, 0⟩)
abbrev t_0 : Stmt := top 65
def d_0 : He.DefD := ⟨("_law_number", none), "_law_number", "_law_number", defArgs t_0, defBody t_0, defScope t_0, [], []⟩
abbrev t_1 : Stmt := top 64
def d_1 : He.DefD := ⟨("_law_cell_at", none), "_law_cell_at", "_law_cell_at", defArgs t_1, defBody t_1, defScope t_1, [], []⟩
abbrev t_3 : Stmt := top 8
def d_3 : He.DefD := ⟨("divisor", none), "divisor", "divisor", defArgs t_3, defBody t_3, defScope t_3, [], []⟩
abbrev t_4 : Stmt := top 9
def d_4 : He.DefD := ⟨("frac", none), "frac", "frac", defArgs t_4, defBody t_4, defScope t_4, [], []⟩
abbrev t_5 : Stmt := top 15
def d_5 : He.DefD := ⟨("below", none), "below", "below", defArgs t_5, defBody t_5, defScope t_5, [], []⟩
abbrev t_6 : Stmt := top 69
def d_6 : He.DefD := ⟨("_law_divisor", none), "_law_divisor", "_law_divisor", defArgs t_6, defBody t_6, defScope t_6, [], []⟩
abbrev t_7 : Stmt := top 68
def d_7 : He.DefD := ⟨("_law_whole", none), "_law_whole", "_law_whole", defArgs t_7, defBody t_7, defScope t_7, [], []⟩
abbrev t_8 : Stmt := top 70
def d_8 : He.DefD := ⟨("_law_is_fraction", none), "_law_is_fraction", "_law_is_fraction", defArgs t_8, defBody t_8, defScope t_8, [], []⟩
abbrev t_10 : Stmt := top 10
def d_10 : He.DefD := ⟨("plus", none), "plus", "plus", defArgs t_10, defBody t_10, defScope t_10, [], []⟩
abbrev t_11 : Stmt := top 11
def d_11 : He.DefD := ⟨("turned", none), "turned", "turned", defArgs t_11, defBody t_11, defScope t_11, [], []⟩
abbrev t_12 : Stmt := top 12
def d_12 : He.DefD := ⟨("less", none), "less", "less", defArgs t_12, defBody t_12, defScope t_12, [], []⟩
abbrev t_13 : Stmt := top 13
def d_13 : He.DefD := ⟨("times", none), "times", "times", defArgs t_13, defBody t_13, defScope t_13, [], []⟩
abbrev t_14 : Stmt := top 14
def d_14 : He.DefD := ⟨("over", none), "over", "over", defArgs t_14, defBody t_14, defScope t_14, [], []⟩
abbrev t_16 : Stmt := top 66
def d_16 : He.DefD := ⟨("_law_desk", none), "_law_desk", "_law_desk", defArgs t_16, defBody t_16, defScope t_16, [], []⟩
abbrev t_17 : Stmt := top 67
def d_17 : He.DefD := ⟨("_law_copied", none), "_law_copied", "_law_copied", defArgs t_17, defBody t_17, defScope t_17, [], []⟩
abbrev t_18 : Stmt := top 25
def d_18 : He.DefD := ⟨("told", none), "told", "told", defArgs t_18, defBody t_18, defScope t_18, [], []⟩
abbrev t_19 : Stmt := top 16
def d_19 : He.DefD := ⟨("is_whole", none), "is_whole", "is_whole", defArgs t_19, defBody t_19, defScope t_19, [], []⟩
abbrev t_20 : Stmt := top 22
def d_20 : He.DefD := ⟨("is_small", none), "is_small", "is_small", defArgs t_20, defBody t_20, defScope t_20, [], []⟩
abbrev t_21 : Stmt := top 21
def d_21 : He.DefD := ⟨("is_row", none), "is_row", "is_row", defArgs t_21, defBody t_21, defScope t_21, [], []⟩
abbrev t_22 : Stmt := top 23
def d_22 : He.DefD := ⟨("is_limit", none), "is_limit", "is_limit", defArgs t_22, defBody t_22, defScope t_22, [], []⟩
abbrev t_23 : Stmt := top 24
def d_23 : He.DefD := ⟨("desk_of", none), "desk_of", "desk_of", defArgs t_23, defBody t_23, defScope t_23, [], []⟩
abbrev t_24 : Stmt := top 72
def d_24 : He.DefD := ⟨("_law_frac", none), "_law_frac", "_law_frac", defArgs t_24, defBody t_24, defScope t_24, [], []⟩
abbrev t_26 : Stmt := top 73
def d_26 : He.DefD := ⟨("_law_add", none), "_law_add", "_law_add", defArgs t_26, defBody t_26, defScope t_26, [], []⟩
abbrev t_28 : Stmt := top 26
def d_28 : He.DefD := ⟨("weight", none), "weight", "weight", defArgs t_28, defBody t_28, defScope t_28, [], []⟩
abbrev t_29 : Stmt := top 75
def d_29 : He.DefD := ⟨("_law_below", none), "_law_below", "_law_below", defArgs t_29, defBody t_29, defScope t_29, [], []⟩
abbrev t_39 : Stmt := top 46
def d_39 : He.DefD := ⟨("lowest", none), "lowest", "lowest", defArgs t_39, defBody t_39, defScope t_39, [], []⟩
abbrev t_40 : Stmt := top 43
def d_40 : He.DefD := ⟨("slack", none), "slack", "slack", defArgs t_40, defBody t_40, defScope t_40, [], []⟩
abbrev t_41 : Stmt := top 44
def d_41 : He.DefD := ⟨("first_rows", none), "first_rows", "first_rows", defArgs t_41, defBody t_41, defScope t_41, [], []⟩
abbrev t_42 : Stmt := top 45
def d_42 : He.DefD := ⟨("first_board", none), "first_board", "first_board", defArgs t_42, defBody t_42, defScope t_42, [], []⟩
abbrev t_43 : Stmt := top 33
def d_43 : He.DefD := ⟨("solved", none), "solved", "solved", defArgs t_43, defBody t_43, defScope t_43, [], []⟩
abbrev t_44 : Stmt := top 34
def d_44 : He.DefD := ⟨("put_in", none), "put_in", "put_in", defArgs t_44, defBody t_44, defScope t_44, [], []⟩
abbrev t_45 : Stmt := inClass (top 31) 1
def d_45 : He.DefD := ⟨("Board", some "swap"), "swap", "Board.swap", defArgs t_45, defBody t_45, defScope t_45, [], []⟩
abbrev t_46 : Stmt := top 35
def d_46 : He.DefD := ⟨("entering", none), "entering", "entering", defArgs t_46, defBody t_46, defScope t_46, [], []⟩
abbrev t_47 : Stmt := top 36
def d_47 : He.DefD := ⟨("leaving", none), "leaving", "leaving", defArgs t_47, defBody t_47, defScope t_47, [], []⟩
abbrev t_48 : Stmt := top 37
def d_48 : He.DefD := ⟨("climb", none), "climb", "climb", defArgs t_48, defBody t_48, defScope t_48, [], []⟩
abbrev t_49 : Stmt := top 47
def d_49 : He.DefD := ⟨("helped", none), "helped", "helped", defArgs t_49, defBody t_49, defScope t_49, [], []⟩
abbrev t_50 : Stmt := top 32
def d_50 : He.DefD := ⟨("cut", none), "cut", "cut", defArgs t_50, defBody t_50, defScope t_50, [], []⟩
abbrev t_51 : Stmt := inClass (top 31) 2
def d_51 : He.DefD := ⟨("Board", some "lose"), "lose", "Board.lose", defArgs t_51, defBody t_51, defScope t_51, [], []⟩
abbrev t_52 : Stmt := top 48
def d_52 : He.DefD := ⟨("freed", none), "freed", "freed", defArgs t_52, defBody t_52, defScope t_52, [], []⟩
abbrev t_53 : Stmt := top 40
def d_53 : He.DefD := ⟨("priced", none), "priced", "priced", defArgs t_53, defBody t_53, defScope t_53, [], []⟩
abbrev t_54 : Stmt := top 49
def d_54 : He.DefD := ⟨("shares_on", none), "shares_on", "shares_on", defArgs t_54, defBody t_54, defScope t_54, [], []⟩
abbrev t_55 : Stmt := top 50
def d_55 : He.DefD := ⟨("opened", none), "opened", "opened", defArgs t_55, defBody t_55, defScope t_55, [], []⟩
abbrev t_56 : Stmt := top 38
def d_56 : He.DefD := ⟨("now", none), "now", "now", defArgs t_56, defBody t_56, defScope t_56, [], []⟩
abbrev t_57 : Stmt := top 51
def d_57 : He.DefD := ⟨("point_on", none), "point_on", "point_on", defArgs t_57, defBody t_57, defScope t_57, [], []⟩
abbrev t_60 : Stmt := top 71
def d_60 : He.DefD := ⟨("_law_is_point", none), "_law_is_point", "_law_is_point", defArgs t_60, defBody t_60, defScope t_60, [], []⟩
abbrev t_63 : Stmt := top 74
def d_63 : He.DefD := ⟨("_law_weigh", none), "_law_weigh", "_law_weigh", defArgs t_63, defBody t_63, defScope t_63, [], []⟩
abbrev t_64 : Stmt := top 76
def d_64 : He.DefD := ⟨("_law_keeps", none), "_law_keeps", "_law_keeps", defArgs t_64, defBody t_64, defScope t_64, [], []⟩
abbrev t_67 : Stmt := top 27
def d_67 : He.DefD := ⟨("checked_goal", none), "checked_goal", "checked_goal", defArgs t_67, defBody t_67, defScope t_67, [], []⟩
abbrev t_68 : Stmt := top 53
def d_68 : He.DefD := ⟨("aimed", none), "aimed", "aimed", defArgs t_68, defBody t_68, defScope t_68, [], []⟩
abbrev t_69 : Stmt := top 39
def d_69 : He.DefD := ⟨("grows", none), "grows", "grows", defArgs t_69, defBody t_69, defScope t_69, [], []⟩
abbrev t_70 : Stmt := top 52
def d_70 : He.DefD := ⟨("way_on", none), "way_on", "way_on", defArgs t_70, defBody t_70, defScope t_70, [], []⟩
abbrev t_71 : Stmt := top 55
def d_71 : He.DefD := ⟨("best", none), "best", "best", defArgs t_71, defBody t_71, defScope t_71, [], []⟩
abbrev t_77 : Stmt := top 28
def d_77 : He.DefD := ⟨("checked_place", none), "checked_place", "checked_place", defArgs t_77, defBody t_77, defScope t_77, [], []⟩
abbrev t_82 : Stmt := top 29
def d_82 : He.DefD := ⟨("without", none), "without", "without", defArgs t_82, defBody t_82, defScope t_82, [], []⟩
abbrev t_83 : Stmt := top 59
def d_83 : He.DefD := ⟨("with_nought", none), "with_nought", "with_nought", defArgs t_83, defBody t_83, defScope t_83, [], []⟩
abbrev t_84 : Stmt := top 57
def d_84 : He.DefD := ⟨("moved", none), "moved", "moved", defArgs t_84, defBody t_84, defScope t_84, [], []⟩
abbrev t_85 : Stmt := top 58
def d_85 : He.DefD := ⟨("beyond", none), "beyond", "beyond", defArgs t_85, defBody t_85, defScope t_85, [], []⟩
abbrev t_86 : Stmt := top 60
def d_86 : He.DefD := ⟨("cover", none), "cover", "cover", defArgs t_86, defBody t_86, defScope t_86, [], []⟩
abbrev t_87 : Stmt := top 61
def d_87 : He.DefD := ⟨("needless", none), "needless", "needless", defArgs t_87, defBody t_87, defScope t_87, [], []⟩
abbrev t_92 : Stmt := top 77
def d_92 : He.DefD := ⟨("_law_more", none), "_law_more", "_law_more", defArgs t_92, defBody t_92, defScope t_92, [], []⟩
abbrev t_93 : Stmt := top 62
def d_93 : He.DefD := ⟨("lean", none), "lean", "lean", defArgs t_93, defBody t_93, defScope t_93, [], []⟩
abbrev t_94 : Stmt := top 78
def d_94 : He.DefD := ⟨("_law_shown", none), "_law_shown", "_law_shown", defArgs t_94, defBody t_94, defScope t_94, [], []⟩
abbrev t_95 : Stmt := top 79
def d_95 : He.DefD := ⟨("law", none), "law", "law", defArgs t_95, defBody t_95, defScope t_95, [], []⟩
abbrev t_init : Stmt := inClass (top 31) 0
def d_init : He.DefD := ⟨("Board", some "__init__"), "__init__", "Board.__init__", defArgs t_init, defBody t_init, defScope t_init, [], []⟩
def fnl : List He.DefD := [d_0, d_1, d_3, d_4, d_5, d_6, d_7, d_8, d_10, d_11, d_12, d_13, d_14, d_16, d_17, d_18, d_19, d_20, d_21, d_22, d_23, d_24, d_26, d_28, d_29, d_39, d_40, d_41, d_42, d_43, d_44, d_45, d_46, d_47, d_48, d_49, d_50, d_51, d_52, d_53, d_54, d_55, d_56, d_57, d_60, d_63, d_64, d_67, d_68, d_69, d_70, d_71, d_77, d_82, d_83, d_84, d_85, d_86, d_87, d_92, d_93, d_94, d_95, d_init]
def fal : List He.Fa := [.glo "_law_number", .glo "_law_cell_at", .glo "divisor", .glo "frac", .glo "below", .glo "_law_divisor", .glo "_law_whole", .glo "_law_is_fraction", .glo "plus", .glo "turned", .glo "less", .glo "times", .glo "over", .glo "_law_desk", .glo "_law_copied", .glo "told", .glo "is_whole", .glo "is_small", .glo "is_row", .glo "is_limit", .glo "desk_of", .glo "_law_frac", .glo "_law_add", .glo "weight", .glo "_law_below", .glo "lowest", .glo "slack", .glo "first_rows", .glo "first_board", .glo "solved", .glo "put_in", .glo "entering", .glo "leaving", .glo "climb", .glo "helped", .glo "cut", .glo "freed", .glo "priced", .glo "shares_on", .glo "opened", .glo "now", .glo "point_on", .glo "_law_is_point", .glo "_law_weigh", .glo "_law_keeps", .glo "checked_goal", .glo "aimed", .glo "grows", .glo "way_on", .glo "best", .glo "checked_place", .glo "without", .glo "with_nought", .glo "moved", .glo "beyond", .glo "cover", .glo "needless", .glo "_law_more", .glo "lean", .glo "_law_shown", .glo "law", .free "abs", .free "len", .free "tuple", .free "list", .free "int", .free "str", .free "sum", .free "isinstance", .free "bool", .free "max", .free "min", .free "range", .free "zip", .free "ValueError", .glo "LimitError", .glo "NoDesk", .glo "NoGoal", .glo "NoPlace", .exc "LimitError", .exc "NoDesk", .exc "NoGoal", .exc "NoPlace", .exm "LimitError" "LimitError" true, .exm "LimitError" "NoDesk" false, .exm "LimitError" "NoGoal" false, .exm "LimitError" "NoPlace" false, .exm "NoDesk" "LimitError" true, .exm "NoDesk" "NoDesk" true, .exm "NoDesk" "NoGoal" false, .exm "NoDesk" "NoPlace" false, .exm "NoGoal" "LimitError" true, .exm "NoGoal" "NoDesk" false, .exm "NoGoal" "NoGoal" true, .exm "NoGoal" "NoPlace" false, .exm "NoPlace" "LimitError" true, .exm "NoPlace" "NoDesk" false, .exm "NoPlace" "NoGoal" false, .exm "NoPlace" "NoPlace" true, .int "KINDS" 4, .int "LIMITS" 10, .int "LIMIT" 1000000000000, .glo "NOUGHT", .glo "ONE", .int "HELPER" 0, .glo "Board", .cls "Board", .mkr "Board", .noat "Board" "heads", .noat "Board" "tails", .noat "Board" "rows", .noat "Board" "goal", .meth "Board" "swap", .meth "Board" "lose"]
def exl (K : PySem.W.Frag) : Bool := excB K "LimitError" && excB K "NoDesk" && excB K "NoGoal" && excB K "NoPlace" && He.tupB K "NOUGHT" [.int 0, .int 1] && He.tupB K "ONE" [.int 1, .int 1]
abbrev R : PySem.W.OpenRow := PySem.W.OpenLaw.row PySem.Challenge.rw_limitdesk_k08_lean_desks
abbrev hk : PySem.W.Hook := He.hookX 4 fal fnl [] [] exl
def ob (s : PySem.W.SharedT) : He.AlX := He.obsX 4 fal fnl [] [] exl (HandSHeadRun.getT s)
theorem ob_eq (s : PySem.W.SharedT) : ob s = hk.obs s.abs := He.obsX_eq (HandSHeadRun.getT_eq s)
def loose : List Str := (["__name__", "LimitError", "NoDesk", "NoGoal", "NoPlace", "NOUGHT", "ONE", "divisor", "frac", "plus", "turned", "less", "times", "over", "below", "is_whole", "KINDS", "LIMITS", "LIMIT", "is_row", "is_small", "is_limit", "desk_of", "told", "weight", "checked_goal", "checked_place", "without", "Board", "cut"] : List Str) ++ (["solved", "put_in", "entering", "leaving", "climb", "now", "grows", "priced", "HELPER", "slack", "first_rows", "first_board", "lowest", "helped", "freed", "shares_on", "opened", "point_on", "way_on", "aimed", "best", "moved", "beyond", "with_nought", "cover", "needless", "lean", "_law_cell_at", "_law_number", "_law_desk"] : List Str) ++ (["_law_copied", "_law_whole", "_law_divisor", "_law_is_fraction", "_law_is_point", "_law_frac", "_law_add", "_law_weigh", "_law_below", "_law_keeps", "_law_more", "_law_shown"] : List Str)
theorem run (w : World) : HandSHeadRun.RunEq R (PySem.W.view R.prog [79]) hk ob 5200 loose w := by
  intro os
  kernel_rfl
end LK.Kk08
/-! A small language of data (no heap), and what its texts do: the weakest precondition, by computation. -/
namespace LK
open PySem

/-- data: what a value is, the heap left out; scr: the script; brd p: the one object that a def may turn -/
inductive D where
  | non | bl (b : Bool) | int (i : Int) | str (s : Str) | tup (ds : List D) | lst (ds : List D) | scr (ns : List Int) | brd (p : Addr)
  deriving Inhabited

/-- operations on one datum -/
inductive O1 where
  | neg | abs | len | tupO | lstO | intO | strO | isInt | isBool | isTup | isLst | isStr | isN | notN | sum
  deriving DecidableEq
/-- operations on two data -/
inductive O2 where
  | add | sub | mul | fdiv | mod | pow | lt | le | gt | ge | eq | ne | cat | tcat | scat | ix | max | min | inD | ninD | ninS
  deriving DecidableEq
/-- methods of a text -/
inductive Mt where
  | startswith | split | partition | find | join
  deriving DecidableEq
/-- the object's fields -/
inductive Fl where
  | heads | tails | rows | goal
  deriving DecidableEq
/-- targets -/
inductive Tg where
  | nm (i : Nat) | pr (i j : Nat)
  deriving DecidableEq

mutual
inductive Ex where
  | var (i : Nat)
  | cst (d : D)
  | glb (g : Nat)
  | op1 (o : O1) (a : Ex)
  | op2 (o : O2) (a b : Ex)
  | and (a b : Ex) | or (a b : Ex) | not (a : Ex) | one (a : Ex)
  | tup (es : Exs) | lst (es : Exs)
  | sl (a : Ex) (lo hi : Ox)
  | call (f : Nat) (es : Exs)
  | comp (tg : Tg) (src : Src) (c : Ox) (elt : Ex)
  | compR (v i : Nat) (elt : Ex)
  | oix (i : Nat) (e : Ex) | oln (i : Nat) | onil (i : Nat) (ne : Bool)
  | fix (f : Fl) (v : Nat) (e : Ex) | flen (f : Fl) (v : Nat) | fin (f : Fl) (v : Nat) (e : Ex) | fidx (f : Fl) (v : Nat) (e : Ex)
  | fgoal (v : Nat) | fsl (f : Fl) (v : Nat) (lo hi : Ox)
  | lend (i : Nat) (e : Ex) | slF (a : Ex) (lo hi : Ox) | mth (m : Mt) (a b : Ex)
inductive Exs where
  | nil | cons (e : Ex) (es : Exs)
inductive Ox where
  | no | so (e : Ex)
inductive Src where
  | rng (e : Ex) | rng2 (a b : Ex) | seq (e : Ex) | zip (a b : Ex) | chs (e : Ex)
end

/-- neither calls nor makes lists: the object stands -/
def quiet : Ex → Bool
  | .var _ => true
  | .cst _ => true
  | .glb _ => true
  | .op1 o a => decide (o ≠ .lstO) && quiet a
  | .op2 o a b => decide (o ≠ .cat) && quiet a && quiet b
  | .and a b => quiet a && quiet b
  | .or a b => quiet a && quiet b
  | .not a => quiet a
  | .one a => quiet a
  | .oix _ e => quiet e
  | .oln _ => true
  | .fix _ _ e => quiet e
  | .flen _ _ => true
  | .fin _ _ e => quiet e
  | .fidx _ _ e => quiet e
  | _ => false
def quietO : Ox → Bool
  | .no => true
  | .so e => quiet e

/-- what an except suite does -/
inductive Hd where
  | set (i : Nat) (d : D) | inc (i : Nat) | incIs (e i : Nat) | retIs (e : Nat) | rais (c : Nat)
  deriving Inhabited

mutual
inductive Sm where
  | asg (i : Nat) (e : Ex) | asgO (i : Nat) (e : Ex) | frz (i : Nat)
  | app (i : Nat) (e : Ex) | ext (i : Nat) (e : Ex) | seti (i : Nat) (k e : Ex)
  | ite (c : Ex) (a b : Sms) | whil (c : Ex) (b : Sms) | forr (tg : Tg) (src : Src) (b : Sms)
  | ret (e : Ex) | retO (i : Nat) | expr (e : Ex) | rais (c : Nat) | tri (b : Sms) (hs : List (Nat × Hd))
  | dead | retB (i j : Nat) (e1 e2 : Ex) | meth (v f : Nat) (es : Exs) | fset (f : Fl) (v : Nat) (e : Ex) | fsetix (f : Fl) (v : Nat) (k e : Ex) | fapp (f : Fl) (v : Nat) (e : Ex)
inductive Sms where
  | nil | cons (s : Sm) (r : Sms)
end

/-- a slot: nothing; a datum; a list of its own that may be turned -/
inductive Sl where
  | no | vl (d : D) | ow (ds : List D)
  deriving Inhabited
/-- the object's state -/
structure Bd where
  heads : List D
  tails : List D
  rows : List D
  ro : Bool
  goal : List D
abbrev Ob := Option (Addr × Bd)

abbrev Env := List Sl
def gt : Env → Nat → Sl
  | [], _ => .no
  | s :: _, 0 => s
  | _ :: r, n + 1 => gt r n
def st : Env → Nat → Sl → Env
  | [], _, _ => []
  | _ :: r, 0, x => x :: r
  | s :: r, n + 1, x => s :: st r n x

/-- a promise on data: arguments, the object's state, what is wanted, what is wanted of an error -/
abbrev FSp := List D → Ob → (D → Ob → Prop) → (Nat → Prop) → Prop
structure Gm where
  sp : Nat → FSp
  fr : Nat → Bool
  gc : Nat → D

mutual
def toPy : D → PyData
  | .non => .none
  | .bl b => .bool b
  | .int i => .int i
  | .str s => .str s
  | .tup ds => .tuple (toPys ds)
  | .lst ds => .list (toPys ds)
  | .scr ns => .list (ns.map .int)
  | .brd _ => .none
def toPys : List D → List PyData
  | [] => []
  | d :: ds => toPy d :: toPys ds
end
mutual
/-- data that may be compared: no object within, at most n deep -/
def cmpOk : Nat → D → Bool
  | _, .non => true
  | _, .bl _ => true
  | _, .int _ => true
  | _, .str s => PyData.strOk s
  | 0, _ => false
  | n + 1, .tup ds => cmpOks n ds
  | n + 1, .lst ds => cmpOks n ds
  | _ + 1, .scr _ => true
  | _ + 1, .brd _ => false
def cmpOks : Nat → List D → Bool
  | _, [] => true
  | n, d :: ds => cmpOk n d && cmpOks n ds
end
def eqD (x y : D) : Bool := PyData.eqv (toPy x) (toPy y)

def MulOk (i j : Int) : Prop := ((-(2 ^ 64) < i ∧ i < 2 ^ 64) ∨ (-(2 ^ 64) < j ∧ j < 2 ^ 64)) ∨ i.natAbs.log2 + j.natAbs.log2 < 1000000
def DivOk (j : Int) : Prop := j ≠ 0 ∧ j.natAbs.log2 < 9000
def cutL {α : Type} (xs : List α) (lo hi : Option Int) : List α := (xs.drop (HT.sIx xs.length 0 lo)).take (HT.sIx xs.length xs.length hi - HT.sIx xs.length 0 lo)

def isIntD : D → Bool
  | .int _ => true
  | .bl _ => true
  | _ => false
def isBoolD : D → Bool
  | .bl _ => true
  | _ => false
def isTupD : D → Bool
  | .tup _ => true
  | _ => false
def isLstD : D → Bool
  | .lst _ => true
  | .scr _ => true
  | _ => false
def isStrD : D → Bool
  | .str _ => true
  | _ => false
def isNonD : D → Bool
  | .non => true
  | _ => false
def isBrdD : D → Bool
  | .brd _ => true
  | _ => false

def w1 (o : O1) (d : D) (Q : D → Prop) : Prop :=
  match o, d with
  | .neg, .int i => Q (.int (-i))
  | .abs, .int i => Q (.int (i.natAbs : Int))
  | .len, .tup ds => Q (.int ds.length)
  | .len, .lst ds => Q (.int ds.length)
  | .len, .scr ns => Q (.int ns.length)
  | .len, .str s => s.length ≤ 1000000 ∧ Q (.int s.length)
  | .tupO, .tup ds => Q (.tup ds)
  | .tupO, .lst ds => Q (.tup ds)
  | .lstO, .tup ds => Q (.lst ds)
  | .lstO, .lst ds => Q (.lst ds)
  | .intO, .int i => Q (.int i)
  | .intO, .bl b => Q (.int (if b then 1 else 0))
  | .intO, .str s => ∃ n, PySem.intText? s = some n ∧ s.length ≤ 640 ∧ Q (.int n)
  | .strO, .int i => i.natAbs.log2 < 1920 ∧ Q (.str (toString i))
  | .isInt, d => isBrdD d = false ∧ Q (.bl (isIntD d))
  | .isBool, d => isBrdD d = false ∧ Q (.bl (isBoolD d))
  | .isTup, d => isBrdD d = false ∧ Q (.bl (isTupD d))
  | .isLst, d => isBrdD d = false ∧ Q (.bl (isLstD d))
  | .isStr, d => isBrdD d = false ∧ Q (.bl (isStrD d))
  | .isN, d => Q (.bl (isNonD d))
  | .notN, d => Q (.bl (!isNonD d))
  | .sum, .lst ds => ∃ ns : List Int, ds = ns.map .int ∧ Q (.int ns.sum)
  | _, _ => False

def w2 (o : O2) (x y : D) (Q : D → Prop) : Prop :=
  match o, x, y with
  | .add, .int i, .int j => Q (.int (i + j))
  | .sub, .int i, .int j => Q (.int (i - j))
  | .mul, .int i, .int j => MulOk i j ∧ Q (.int (i * j))
  | .fdiv, .int i, .int j => DivOk j ∧ Q (.int (i.fdiv j))
  | .mod, .int i, .int j => j ≠ 0 ∧ Q (.int (i.fmod j))
  | .pow, .int i, .int j => (0 ≤ j ∧ j ≤ 1000000 ∧ i.natAbs < 2 ^ 64) ∧ Q (.int (i ^ j.toNat))
  | .lt, .int i, .int j => Q (.bl (decide (i < j)))
  | .le, .int i, .int j => Q (.bl (decide (i ≤ j)))
  | .gt, .int i, .int j => Q (.bl (decide (j < i)))
  | .ge, .int i, .int j => Q (.bl (decide (j ≤ i)))
  | .eq, x, y => cmpOk 20 x = true ∧ cmpOk 20 y = true ∧ Q (.bl (eqD x y))
  | .ne, x, y => cmpOk 20 x = true ∧ cmpOk 20 y = true ∧ Q (.bl (!eqD x y))
  | .cat, .lst a, .lst b => a.length + b.length ≤ 1000000 ∧ Q (.lst (a ++ b))
  | .tcat, .tup a, .tup b => a.length + b.length ≤ 1000000 ∧ Q (.tup (a ++ b))
  | .scat, .str a, .str b => a.length + b.length ≤ 1000000 ∧ Q (.str (a ++ b))
  | .ix, .lst ds, .int i => ∃ d, L2.atI ds i = some d ∧ Q d
  | .ix, .tup ds, .int i => ∃ d, L2.atI ds i = some d ∧ Q d
  | .ix, .scr ns, .int i => ∃ d, L2.atI ns i = some d ∧ Q (.int d)
  | .ix, .str s, .int i => ∃ c, s.length ≤ 1000000 ∧ L2.atI s.cps.toList i = some c ∧ Q (.str ⟨#[c]⟩)
  | .inD, x, .lst ds => cmpOk 20 x = true ∧ cmpOk 20 (.lst ds) = true ∧ Q (.bl (ds.any fun z => eqD z x))
  | .ninD, x, .lst ds => cmpOk 20 x = true ∧ cmpOk 20 (.lst ds) = true ∧ Q (.bl (!ds.any fun z => eqD z x))
  | .ninS, .str s, .str z => ∃ c, s = ⟨#[c]⟩ ∧ Q (.bl (!decide (c ∈ z.cps.toList)))
  | .max, .int i, .int j => Q (.int (if j > i then j else i))
  | .min, .int i, .int j => Q (.int (if j < i then j else i))
  | _, _, _ => False

def wsl (x : D) (lo hi : Option Int) (Q : D → Prop) : Prop :=
  match x with
  | .lst ds => Q (.lst (cutL ds lo hi))
  | .scr ns => Q (.lst ((cutL ns lo hi).map .int))
  | .tup ds => Q (.tup (cutL ds lo hi))
  | .str s => s.length ≤ 1000000 ∧ Q (.str ⟨(cutL s.cps.toList lo hi).toArray⟩)
  | _ => False

/-- a text's methods -/
def wmt (m : Mt) (x y : D) (Q : D → Prop) : Prop :=
  match m, x, y with
  | .startswith, .str a, .str b => Q (.bl (Txt.startswith a b))
  | .find, .str a, .str b => Q (.int (Txt.find a b))
  | .split, .str a, .str b => (b.length == 0) = false ∧ a.length + 2 ≤ 1000000 ∧ Q (.lst ((Txt.split a b).map .str))
  | .partition, .str a, .str b => (b.length == 0) = false ∧ a.length ≤ 1000000 ∧ Q (.tup [.str (Txt.partition a b).1, .str (Txt.partition a b).2.1, .str (Txt.partition a b).2.2])
  | .join, .str a, .lst ds => ∃ ys : List Str, ds = ys.map .str ∧ (ys.map (·.length)).sum + ys.length * a.length ≤ 16777216 ∧ Q (.str (Txt.join a ys))
  | _, _, _ => False
/-- a slice of a list -/
def wslF (x : D) (lo hi : Option Int) (Q : D → Prop) : Prop :=
  match x with
  | .lst ds => Q (.lst (cutL ds lo hi))
  | _ => False
/-- no address within -/
def atomD : D → Bool
  | .non => true
  | .bl _ => true
  | .int _ => true
  | .str _ => true
  | _ => false
def headInt : List D → Bool
  | [] => true
  | .int _ :: _ => true
  | _ => false
def headTup : List D → Bool
  | .tup _ :: _ => true
  | _ => false
mutual
/-- each list within is empty or begins with a whole number -/
def flatD : D → Bool
  | .tup ds => flatDs ds
  | .lst ds => headInt ds && flatDs ds
  | .scr _ => false
  | .brd _ => false
  | _ => true
def flatDs : List D → Bool
  | [] => true
  | d :: ds => flatD d && flatDs ds
end
/-- this datum does not reach that own list -/
def lendOk (ds : List D) (d : D) : Bool := atomD d || (flatD d && headTup ds)

def fld (B : Bd) : Fl → List D
  | .heads => B.heads
  | .tails => B.tails
  | .rows => B.rows
  | .goal => B.goal
/-- the object that stands in the slot -/
def theB (δ : Env) (v : Nat) (b : Ob) (Q : Addr → Bd → Prop) : Prop :=
  match gt δ v, b with
  | .vl (.brd p), some (q, B) => p = q ∧ Q q B
  | _, _ => False

def rngD (lo : Int) (n : Nat) : List D := (List.range n).map fun k => .int (lo + (k : Nat))
def binds (tg : Tg) (x : D) (δ : Env) (Q : Env → Prop) : Prop :=
  match tg, x with
  | .nm i, x => Q (st δ i (.vl x))
  | .pr i j, .tup [a, c] => Q (st (st δ i (.vl a)) j (.vl c))
  | _, _ => False
def wtest (d : D) (Q : Bool → Prop) : Prop :=
  match d with
  | .bl t => Q t
  | _ => False
/-- the items that a source walks -/
def wseq (x : D) (R : List D → Prop) : Prop :=
  match x with
  | .lst ds => R ds
  | .tup ds => R ds
  | .scr ns => R (ns.map .int)
  | _ => False
def wrng (x : D) (R : List D → Prop) : Prop :=
  match x with
  | .int j => (-(2 ^ 62) ≤ j ∧ j < 2 ^ 62) ∧ R (rngD 0 j.toNat)
  | _ => False
def wrng2 (x y : D) (R : List D → Prop) : Prop :=
  match x, y with
  | .int i, .int j => (-(2 ^ 62) ≤ i ∧ i < 2 ^ 62 ∧ -(2 ^ 62) ≤ j ∧ j < 2 ^ 62) ∧ R (rngD i (j - i).toNat)
  | _, _ => False
def zipD : List D → List D → List D
  | x :: xs, y :: ys => .tup [x, y] :: zipD xs ys
  | _, _ => []
def wzip (x y : D) (R : List D → Prop) : Prop :=
  match x, y with
  | .lst a, .lst b => R (zipD a b)
  | .tup a, .lst b => R (zipD a b)
  | .tup a, .tup b => R (zipD a b)
  | _, _ => False
/-- the loop of a comprehension: step tells what an item adds (nothing: it is left out) -/
def wmap (step : D → Ob → (Option D → Ob → Prop) → Prop) : List D → List D → Ob → (List D → Ob → Prop) → Prop
  | [], acc, b, Q => Q acc b
  | x :: xs, acc, b, Q => step x b fun o b' => wmap step xs (match o with | some d => acc ++ [d] | none => acc) b' Q

variable (G : Gm)
mutual
def wE : Ex → Env → Ob → (D → Ob → Prop) → (Nat → Prop) → Prop
  | .var i, δ, b, Q, _ => match gt δ i with
    | .vl d => Q d b
    | _ => False
  | .cst d, _, b, Q, _ => Q d b
  | .glb g, _, b, Q, _ => Q (G.gc g) b
  | .op1 o a, δ, b, Q, E => wE a δ b (fun x b1 => w1 o x fun z => Q z b1) E
  | .op2 o a c, δ, b, Q, E => wE a δ b (fun x b1 => wE c δ b1 (fun y b2 => w2 o x y fun z => Q z b2) E) E
  | .and a c, δ, b, Q, E => wE a δ b (fun x b1 => wtest x fun t => if t then wE c δ b1 Q E else Q (.bl false) b1) E
  | .or a c, δ, b, Q, E => wE a δ b (fun x b1 => wtest x fun t => if t then Q (.bl true) b1 else wE c δ b1 Q E) E
  | .not a, δ, b, Q, E => wE a δ b (fun x b1 => wtest x fun t => Q (.bl (!t)) b1) E
  | .one a, δ, b, Q, E => wE a δ b Q E
  | .tup es, δ, b, Q, E => wEs es δ b (fun ds b1 => Q (.tup ds) b1) E
  | .lst es, δ, b, Q, E => wEs es δ b (fun ds b1 => Q (.lst ds) b1) E
  | .sl a lo hi, δ, b, Q, E => wE a δ b (fun x b1 => wO lo δ b1 (fun l b2 => wO hi δ b2 (fun h b3 => wsl x l h fun z => Q z b3) E) E) E
  | .call f es, δ, b, Q, E => wEs es δ b (fun ds b1 => G.sp f ds b1 Q E) E
  | .comp tg src c elt, δ, b, Q, E => wSrc src δ b (fun xs b1 => xs.length ≤ 1000000 ∧ wmap (fun x b2 R => binds tg x δ fun δ2 =>
      wC c δ2 b2 (fun t b3 => if t then wE elt δ2 b3 (fun d b4 => R (some d) b4) (fun _ => False) else R none b3)) xs [] b1 fun ds b5 => Q (.lst ds) b5) E
  | .compR v i elt, δ, b, Q, _ => theB δ v b fun _ B => B.rows.length ≤ 1000000 ∧ wmap (fun x b2 R => wE elt (st δ i (.vl x)) b2 (fun d b3 => R (some d) b3) (fun _ => False)) B.rows [] none fun ds _ => Q (.lst ds) b
  | .oix i e, δ, b, Q, E => match gt δ i with
    | .ow ds => wE e δ b (fun x b1 => match x with
      | .int k => ∃ d, L2.atI ds k = some d ∧ Q d b1
      | _ => False) E
    | _ => False
  | .oln i, δ, b, Q, _ => match gt δ i with
    | .ow ds => Q (.int ds.length) b
    | _ => False
  | .onil i ne, δ, b, Q, _ => match gt δ i with
    | .ow ds => cmpOk 20 (.lst ds) = true ∧ Q (.bl (if ne then !ds.isEmpty else ds.isEmpty)) b
    | _ => False
  | .fix f v e, δ, b, Q, E => theB δ v b fun _ B => wE e δ b (fun x b1 => match x with
    | .int k => ∃ d, L2.atI (fld B f) k = some d ∧ Q d b1
    | _ => False) E
  | .flen f v, δ, b, Q, _ => theB δ v b fun _ B => Q (.int (fld B f).length) b
  | .fin f v e, δ, b, Q, E => wE e δ b (fun x b1 => theB δ v b1 fun _ B => match x with
    | .int k => ∃ ns : List Int, fld B f = ns.map .int ∧ Q (.bl (decide (k ∈ ns))) b1
    | _ => False) E
  | .fidx f v e, δ, b, Q, E => theB δ v b fun _ B => wE e δ b (fun x b1 => match x with
    | .int k => ∃ ns : List Int, fld B f = ns.map .int ∧ k ∈ ns ∧ Q (.int (ns.idxOf k)) b1
    | _ => False) E
  | .fgoal v, δ, b, Q, _ => theB δ v b fun _ B => Q (.lst B.goal) b
  | .lend i e, δ, b, Q, _ => match gt δ i with
    | .ow ds => wE e (st δ i (.vl (.lst ds))) b (fun d b1 => lendOk ds d = true ∧ b1 = none ∧ Q d b1) (fun _ => False)
    | _ => False
  | .slF a lo hi, δ, b, Q, E => wE a δ b (fun x b1 => wO lo δ b1 (fun l b2 => wO hi δ b2 (fun h b3 => wslF x l h fun z => Q z b3) E) E) E
  | .mth m a c, δ, b, Q, E => wE a δ b (fun x b1 => isStrD x = true ∧ wE c δ b1 (fun y b2 => wmt m x y fun z => Q z b2) E) E
  | .fsl f v lo hi, δ, b, Q, E => theB δ v b fun _ B => wO lo δ b (fun l b1 => wO hi δ b1 (fun h b2 => Q (.lst (cutL (fld B f) l h)) b2) E) E
def wEs : Exs → Env → Ob → (List D → Ob → Prop) → (Nat → Prop) → Prop
  | .nil, _, b, Q, _ => Q [] b
  | .cons e es, δ, b, Q, E => wE e δ b (fun d b1 => wEs es δ b1 (fun ds b2 => Q (d :: ds) b2) E) E
/-- a slice's bound -/
def wO : Ox → Env → Ob → (Option Int → Ob → Prop) → (Nat → Prop) → Prop
  | .no, _, b, Q, _ => Q none b
  | .so e, δ, b, Q, E => wE e δ b (fun x b1 => match x with
    | .int i => Q (some i) b1
    | _ => False) E
/-- a comprehension's test -/
def wC : Ox → Env → Ob → (Bool → Ob → Prop) → Prop
  | .no, _, b, Q => Q true b
  | .so e, δ, b, Q => wE e δ b (fun x b1 => wtest x fun t => Q t b1) (fun _ => False)
def wSrc : Src → Env → Ob → (List D → Ob → Prop) → (Nat → Prop) → Prop
  | .rng e, δ, b, R, E => wE e δ b (fun x b1 => wrng x fun xs => R xs b1) E
  | .rng2 a c, δ, b, R, E => wE a δ b (fun x b1 => wE c δ b1 (fun y b2 => wrng2 x y fun xs => R xs b2) E) E
  | .seq e, δ, b, R, E => wE e δ b (fun x b1 => wseq x fun xs => R xs b1) E
  | .zip a c, δ, b, R, E => wE a δ b (fun x b1 => wE c δ b1 (fun y b2 => wzip x y fun xs => R xs b2) E) E
  | .chs e, δ, b, R, E => wE e δ b (fun x b1 => match x with
    | .str s => R (s.cps.toList.map fun c => .str ⟨#[c]⟩) b1
    | _ => False) E
end

/-- what is wanted behind a statement -/
structure Kt where
  nx : Env → Ob → Prop
  rt : D → Ob → Prop
  ex : Nat → Env → Prop

def subC (c d : Nat) : Bool := c == d || d == 0
def wHd (h : Hd) (k : Kt) (δ : Env) : Prop :=
  match h with
  | .set i d => k.nx (st δ i (.vl d)) none
  | .inc i => match gt δ i with
    | .vl (.int n) => k.nx (st δ i (.vl (.int (n + 1)))) none
    | _ => False
  | .incIs e i => match gt δ i with
    | .vl (.int n) => k.nx (st (st δ i (.vl (.int (n + 1)))) e .no) none
    | _ => False
  | .retIs _ => k.rt (.bl true) none
  | .rais _ => False
def wHds (c : Nat) (δ : Env) (k : Kt) : List (Nat × Hd) → Prop
  | [] => k.ex c δ
  | (d, h) :: r => if subC c d then wHd h k (match h with | .incIs e _ => st δ e .no | .retIs e => st δ e .no | _ => δ) else wHds c δ k r
/-- a loop over items -/
def wfor (step : D → Env → Ob → (Env → Ob → Prop) → Prop) : List D → Env → Ob → (Env → Ob → Prop) → Prop
  | [], δ, b, Q => Q δ b
  | x :: xs, δ, b, Q => step x δ b fun δ' b' => wfor step xs δ' b' Q

mutual
def wS : Sm → Kt → Env → Ob → Prop
  | .asg i e, k, δ, b => wE G e δ b (fun d b1 => k.nx (st δ i (.vl d)) b1) (fun c => k.ex c δ)
  | .asgO i e, k, δ, b => wE G e δ b (fun d b1 => match d with
    | .lst ds => k.nx (st δ i (.ow ds)) b1
    | _ => False) (fun c => k.ex c δ)
  | .frz i, k, δ, b => match gt δ i with
    | .ow ds => k.nx (st δ i (.vl (.lst ds))) b
    | _ => k.nx δ b
  | .app i e, k, δ, b => match gt δ i with
    | .ow ds => wE G e δ b (fun d b1 => ds.length < 1000000 ∧ k.nx (st δ i (.ow (ds ++ [d]))) b1) (fun c => k.ex c δ)
    | _ => False
  | .ext i e, k, δ, b => match gt δ i with
    | .ow ds => wE G e δ b (fun d b1 => match d with
      | .lst es => ds.length + es.length ≤ 1000000 ∧ k.nx (st δ i (.ow (ds ++ es))) b1
      | _ => False) (fun c => k.ex c δ)
    | _ => False
  | .seti i ke e, k, δ, b => wE G e δ b (fun d b1 => match gt δ i with
    | .ow ds => wE G ke δ b1 (fun x b2 => match x with
      | .int j => ∃ m, L2.ixN ds.length j = some m ∧ k.nx (st δ i (.ow (ds.set m d))) b2
      | _ => False) (fun c => k.ex c δ)
    | _ => False) (fun c => k.ex c δ)
  | .ite c x y, k, δ, b => wE G c δ b (fun d b1 => wtest d fun t => if t then wB x k δ b1 else wB y k δ b1) (fun c => k.ex c δ)
  | .whil c y, k, δ, b => ∃ I : Nat → Env → Ob → Prop, (∃ m, I m δ b) ∧ ∀ m δ b, I m δ b →
      wE G c δ b (fun d b1 => wtest d fun t => if t then wB y { k with nx := fun δ' b' => ∃ m', m' < m ∧ I m' δ' b' } δ b1 else k.nx δ b1) (fun c => k.ex c δ)
  | .forr tg src y, k, δ, b => wSrc G src δ b (fun xs b1 => wfor (fun x δ b R => binds tg x δ fun δ' => wB y { k with nx := R } δ' b) xs δ b1 k.nx) (fun c => k.ex c δ)
  | .ret e, k, δ, b => wE G e δ b k.rt (fun c => k.ex c δ)
  | .retO i, k, δ, b => match gt δ i with
    | .ow ds => k.rt (.lst ds) b
    | _ => False
  | .expr e, k, δ, b => wE G e δ b (fun _ b1 => k.nx δ b1) (fun c => k.ex c δ)
  | .dead, _, _, _ => False
  | .rais c, k, δ, b => k.ex c δ
  | .tri y hs, k, δ, b => wB y { k with ex := fun c δ' => wHds c δ' k hs } δ b
  | .retB i j e1 e2, k, δ, b => match gt δ i, gt δ j with
    | .ow hs, .ow ts => wE G e1 δ b (fun d1 b1 => wE G e2 δ b1 (fun d2 b2 => match d1, d2 with
      | .lst rs, .lst g => b2 = none ∧ ∀ p, k.rt (.brd p) (some (p, ⟨hs, ts, rs, false, g⟩))
      | _, _ => False) (fun c => k.ex c δ)) (fun c => k.ex c δ)
    | _, _ => False
  | .meth v f es, k, δ, b => match gt δ v with
    | .vl (.brd p) => (∃ B, b = some (p, B)) ∧ wEs G es δ b (fun ds b1 => G.sp f (.brd p :: ds) b1 (fun _ b2 => k.nx δ b2) (fun _ => False)) (fun _ => False)
    | _ => False
  | .fset f v e, k, δ, b => wE G e δ b (fun d b1 => theB δ v b1 fun p B => match f, d with
    | .rows, .lst ds => k.nx δ (some (p, { B with rows := ds, ro := true }))
    | .tails, .lst ds => k.nx δ (some (p, { B with tails := ds }))
    | .heads, .lst ds => k.nx δ (some (p, { B with heads := ds }))
    | .goal, .lst ds => k.nx δ (some (p, { B with goal := ds }))
    | _, _ => False) (fun c => k.ex c δ)
  | .fsetix f v ke e, k, δ, b => wE G e δ b (fun d b1 => theB δ v b1 fun p B => wE G ke δ b1 (fun x _ => match f, x with
    | .rows, .int j => ∃ m, B.ro = true ∧ L2.ixN B.rows.length j = some m ∧ k.nx δ (some (p, { B with rows := B.rows.set m d }))
    | .heads, .int j => ∃ m, L2.ixN B.heads.length j = some m ∧ k.nx δ (some (p, { B with heads := B.heads.set m d }))
    | .tails, .int j => ∃ m, L2.ixN B.tails.length j = some m ∧ k.nx δ (some (p, { B with tails := B.tails.set m d }))
    | _, _ => False) (fun c => k.ex c δ)) (fun c => k.ex c δ)
  | .fapp f v e, k, δ, b => theB δ v b fun p B => wE G e δ b (fun d _ => match f with
    | .tails => B.tails.length < 1000000 ∧ k.nx δ (some (p, { B with tails := B.tails ++ [d] }))
    | _ => False) (fun c => k.ex c δ)
def wB : Sms → Kt → Env → Ob → Prop
  | .nil, k, δ, b => k.nx δ b
  | .cons s r, k, δ, b => wS s { k with nx := fun δ' b' => wB r k δ' b' } δ b
end
end LK

/-! Does a text of the language say what a Python text says? -/
namespace LK
open PySem

/-- names: functions, constants, error classes; the object's class -/
structure Nms where
  fn : Nat → Str
  gl : Nat → Str
  ex : Nat → Str
  bd : Str
  hf : Nat → Bool
  hm : Nat → Bool
  hg : Nat → Bool
  hc : Nat → Bool
  hb : Bool

def isVis (sc : Scope) (x : Str) : Bool := match sc.names.lookup x with
  | some .local => true
  | some .cell => true
  | some .free => true
  | _ => false
def isLoc (sc : Scope) (x : Str) : Bool := match sc.names.lookup x with
  | some .local => true
  | some .cell => true
  | _ => false
def isGl (sc : Scope) (x : Str) : Bool := match sc.names.lookup x with
  | some .globalImplicit => true
  | _ => false
def okName (x : Str) : Bool := !(x == ("__debug__" : Str)) && !(x == ("__classdict__" : Str)) && !(x == ("__name__" : Str))
def flName : Fl → Str
  | .heads => "heads"
  | .tails => "tails"
  | .rows => "rows"
  | .goal => "goal"

section
variable (M : Nms) (N : List Str)
/-- the name in slot i -/
def chkV (sc : Scope) (i : Nat) (x : Expr) : Bool := match x with
  | .Name s _ => decide (N[i]? = some s) && isVis sc s && okName s
  | _ => false
def chkK (d : D) (x : Expr) : Bool := match x with
  | .Constant c _ _ => (match d, c with
    | .non, .none => true
    | .bl b, .bool c => b == c
    | .int i, .int j => i == j
    | .str s, .str t => s == t
    | _, _ => false)
  | _ => false
/-- a built-in called with one argument, its name -/
def blt1 : O1 → Option Str
  | .abs => some "abs"
  | .len => some "len"
  | .tupO => some "tuple"
  | .lstO => some "list"
  | .intO => some "int"
  | .strO => some "str"
  | .sum => some "sum"
  | _ => none
def isiT : O1 → Option Str
  | .isInt => some "int"
  | .isBool => some "bool"
  | .isTup => some "tuple"
  | .isLst => some "list"
  | .isStr => some "str"
  | _ => none
def binT : O2 → Option Operator
  | .add => some .Add
  | .sub => some .Sub
  | .mul => some .Mult
  | .fdiv => some .FloorDiv
  | .mod => some .Mod
  | .pow => some .Pow
  | .cat => some .Add
  | .tcat => some .Add
  | .scat => some .Add
  | _ => none
def cmpT : O2 → Option CmpOp
  | .lt => some .Lt
  | .le => some .LtE
  | .gt => some .Gt
  | .ge => some .GtE
  | .eq => some .Eq
  | .ne => some .NotEq
  | .inD => some .In
  | .ninD => some .NotIn
  | .ninS => some .NotIn
  | _ => none
def blt2 : O2 → Option Str
  | .max => some "max"
  | .min => some "min"
  | _ => none
def mtName : Mt → Str
  | .startswith => "startswith"
  | .split => "split"
  | .partition => "partition"
  | .find => "find"
  | .join => "join"
def mtBase : Expr → Bool
  | .Name _ _ => true
  | .Constant _ _ _ => true
  | _ => false
def glName (sc : Scope) (s : Str) (x : Expr) : Bool := match x with
  | .Name y _ => y == s && isGl sc y && okName y
  | _ => false
def isNone (x : Expr) : Bool := match x with
  | .Constant .none _ _ => true
  | _ => false
def ownOf : Tg → List (Str × Nat)
  | .nm i => [(N.getD i (Str.ofString "?"), i)]
  | .pr i j => [(N.getD i (Str.ofString "?"), i), (N.getD j (Str.ofString "?"), j)]
/-- a target's name -/
def chkL (sc : Scope) (i : Nat) (x : Expr) : Bool := match x with
  | .Name s _ => decide (N[i]? = some s) && isLoc sc s
  | _ => false
def chkTg (sc : Scope) (tg : Tg) (x : Expr) : Bool := match tg with
  | .nm i => chkL N sc i x
  | .pr i j => (match x with
    | .Tuple [a, b] _ _ => chkL N sc i a && chkL N sc j b && decide (i ≠ j)
    | _ => false)
/-- a comprehension's target: names of the block's own -/
def ownTg (scope : Scope) (tg : Tg) : Bool := (ownOf N tg).all fun p => match scope.names.lookup p.1 with
  | some .local => true
  | some .cell => true
  | _ => false
/-- zip goes to a pair of names -/
def zipOk : Tg → Src → Bool
  | .nm _, .zip _ _ => false
  | _, _ => true
def chkF (sc : Scope) (f : Fl) (v : Nat) (x : Expr) : Bool := match x with
  | .Attribute o a _ => M.hb && chkV N sc v o && a == flName f
  | _ => false
mutual
def chkE (sc : Scope) (e : Ex) (x : Expr) : Bool := match e with
  | .var i => chkV N sc i x
  | .cst d => chkK d x
  | .glb g => M.hg g && glName sc (M.gl g) x
  | .op1 o a => (match o with
    | .neg => (match x with
      | .UnaryOp .USub y _ => chkE sc a y
      | _ => false)
    | .isN => (match x with
      | .Compare y [.Is] [z] _ => chkE sc a y && isNone z
      | _ => false)
    | .notN => (match x with
      | .Compare y [.IsNot] [z] _ => chkE sc a y && isNone z
      | _ => false)
    | o => (match blt1 o with
      | some s => (match x with
        | .Call f [y] [] _ => glName sc s f && chkE sc a y
        | _ => false)
      | none => (match isiT o with
        | some t => (match x with
          | .Call f [y, z] [] _ => glName sc "isinstance" f && glName sc t z && chkE sc a y
          | _ => false)
        | none => false)))
  | .op2 o a b => (match binT o with
    | some op => (match x with
      | .BinOp y op' z _ => decide (op' = op) && chkE sc a y && chkE sc b z
      | _ => false)
    | none => (match cmpT o with
      | some op => (match x with
        | .Compare y [op'] [z] _ => decide (op' = op) && chkE sc a y && chkE sc b z
        | _ => false)
      | none => (match blt2 o with
        | some s => (match x with
          | .Call f [y, z] [] _ => glName sc s f && chkE sc a y && chkE sc b z
          | _ => false)
        | none => (match x with
          | .Subscript y z _ => chkE sc a y && chkE sc b z
          | _ => false))))
  | .and a b => (match x with
    | .BoolOp .And (y :: z :: r) p => chkE sc a y && chkE sc b (.BoolOp .And (z :: r) p)
    | _ => false)
  | .or a b => (match x with
    | .BoolOp .Or (y :: z :: r) p => chkE sc a y && chkE sc b (.BoolOp .Or (z :: r) p)
    | _ => false)
  | .one a => (match x with
    | .BoolOp _ [y] _ => chkE sc a y
    | _ => false)
  | .not a => (match x with
    | .UnaryOp .Not y _ => chkE sc a y
    | _ => false)
  | .tup es => (match x with
    | .Tuple ys _ _ => decide (ys.length ≤ 1000) && chkEs sc es ys
    | _ => false)
  | .lst es => (match x with
    | .List ys _ => decide (ys.length ≤ 1000) && chkEs sc es ys
    | _ => false)
  | .sl a lo hi => (match x with
    | .Subscript y (.Slice l h none _) _ => chkE sc a y && chkO sc lo l && chkO sc hi h
    | _ => false)
  | .call f es => (match x with
    | .Call g (y :: ys) [] _ => M.hf f && glName sc (M.fn f) g && chkEs sc es (y :: ys)
    | _ => false)
  | .comp tg src c elt => (match x with
    | .ListComp y [⟨t, it, ifs, 0⟩] scope _ => zipOk tg src && chkTg N (L2.relS scope sc) tg t && ownTg N scope tg && chkSrc sc src it && L2.blkC N sc scope (ownOf N tg) &&
        chkC (L2.relS scope sc) c ifs && chkE (L2.relS scope sc) elt y
    | _ => false)
  | .compR v i elt => (match x with
    | .ListComp y [⟨t, it, [], 0⟩] scope _ => chkTg N (L2.relS scope sc) (.nm i) t && ownTg N scope (.nm i) && chkF M N sc .rows v it && L2.blkC N sc scope (ownOf N (.nm i)) && chkE (L2.relS scope sc) elt y
    | _ => false)
  | .oix i e => (match x with
    | .Subscript y z _ => chkV N sc i y && chkE sc e z
    | _ => false)
  | .oln i => (match x with
    | .Call g [y] [] _ => glName sc "len" g && chkV N sc i y
    | _ => false)
  | .onil i ne => (match x with
    | .Compare y [op] [.List [] _] _ => chkV N sc i y && decide (op = if ne then .NotEq else .Eq)
    | _ => false)
  | .fix f v e => (match x with
    | .Subscript y z _ => quiet e && chkF M N sc f v y && chkE sc e z
    | _ => false)
  | .flen f v => (match x with
    | .Call g [y] [] _ => glName sc "len" g && chkF M N sc f v y
    | _ => false)
  | .fin f v e => (match x with
    | .Compare y [.In] [z] _ => chkE sc e y && chkF M N sc f v z
    | _ => false)
  | .fidx f v e => (match x with
    | .Call (.Attribute o m ap) [y] [] cp => quiet e && chkF M N sc f v o && m == ("index" : Str) && ap.endLine == cp.line && chkE sc e y
    | _ => false)
  | .fgoal v => chkF M N sc .goal v x
  | .fsl f v lo hi => (match x with
    | .Subscript y (.Slice l h none _) _ => quietO lo && quietO hi && chkF M N sc f v y && chkO sc lo l && chkO sc hi h
    | _ => false)
  | .lend _ e => (match x with
    | .Call f ys zs p => chkE sc e (.Call f ys zs p)
    | .Compare y ops zs p => chkE sc e (.Compare y ops zs p)
    | _ => false)
  | .slF a lo hi => (match x with
    | .Subscript y (.Slice l h none _) _ => chkE sc a y && chkO sc lo l && chkO sc hi h
    | _ => false)
  | .mth m a b => (match x with
    | .Call (.Attribute y s ap) [z] [] cp => s == mtName m && ap.endLine == cp.line && mtBase y && chkE sc a y && chkE sc b z
    | _ => false)
def chkEs (sc : Scope) (es : Exs) (xs : List Expr) : Bool := match es with
  | .nil => xs.isEmpty
  | .cons e es => (match xs with
    | x :: xs => chkE sc e x && chkEs sc es xs
    | [] => false)
def chkO (sc : Scope) (o : Ox) (x : Option Expr) : Bool := match o with
  | .no => x.isNone
  | .so e => (match x with
    | some x => chkE sc e x
    | none => false)
def chkC (sc : Scope) (o : Ox) (xs : List Expr) : Bool := match o with
  | .no => xs.isEmpty
  | .so e => (match xs with
    | [x] => chkE sc e x
    | _ => false)
def chkSrc (sc : Scope) (s : Src) (x : Expr) : Bool := match s with
  | .rng e => (match x with
    | .Call f [y] [] _ => glName sc "range" f && chkE sc e y
    | _ => false)
  | .rng2 a b => (match x with
    | .Call f [y, z] [] _ => glName sc "range" f && chkE sc a y && chkE sc b z
    | _ => false)
  | .seq e => chkE sc e x
  | .zip a b => (match x with
    | .Call f [y, z] [] _ => glName sc "zip" f && chkE sc a y && chkE sc b z
    | _ => false)
  | .chs e => chkE sc e x
end

/-- is what it tells a new list of its own? -/
def fresh (fr : Nat → Bool) : Ex → Bool
  | .lst _ => true
  | .comp .. => true
  | .compR .. => true
  | .op1 .lstO _ => true
  | .slF .. => true
  | .mth .split _ _ => true
  | .op2 .cat _ _ => true
  | .call f _ => fr f
  | _ => false
/-- a comprehension stored in a name: told on one line, to a plain local that the block does not bind, or to a cell -/
def chkAs (sc : Scope) (y : Expr) (x : Expr) : Bool := match y with
  | .Name s py => (match x with
    | .ListComp _ _ scope p => (match sc.names.lookup s with
      | some .local => py.line == p.line && !(scope.names.any fun (n, k) => n == s && (k == .local || k == .cell))
      | some .cell => true
      | _ => false)
    | .SetComp .. => false
    | .DictComp .. => false
    | _ => true)
  | _ => false
def chkHd (sc : Scope) (h : Hd) (nm : Option Str) (ss : List Stmt) : Bool := match h with
  | .set i d => nm.isNone && (match ss with
    | [.Assign [y] x _] => chkL N sc i y && chkK d x
    | _ => false)
  | .inc i => nm.isNone && (match ss with
    | [.Assign [y] (.BinOp a .Add (.Constant (.int 1) _ _) _) _] => chkL N sc i y && chkV N sc i a
    | _ => false)
  | .incIs e i => (match nm, ss with
    | some n, [.Assign [y] (.BinOp a .Add (.Call f [.Call g [u, z] [] _] [] _) _) _] => decide (N[e]? = some n) && decide (sc.names.lookup n = some .local) && decide (e ≠ i) && chkL N sc i y && chkV N sc i a &&
        glName sc "int" f && glName sc "isinstance" g && chkV N sc e u && glName sc "ValueError" z
    | _, _ => false)
  | .rais _ => nm.isNone && !ss.isEmpty
  | .retIs e => (match nm, ss with
    | some n, [.Return (some (.Call g [u, z] [] _)) _] => decide (N[e]? = some n) && decide (sc.names.lookup n = some .local) && glName sc "isinstance" g && chkV N sc e u && glName sc "ValueError" z
    | _, _ => false)
def chkHds (sc : Scope) (hs : List (Nat × Hd)) (xs : List ExceptHandler) : Bool := match hs, xs with
  | [], [] => true
  | (c, h) :: hs, (.ExceptHandler (some t) nm ss _) :: xs => M.hc c && glName sc (M.ex c) t && chkHd N sc h nm ss && chkHds sc hs xs
  | _, _ => false
def plainHd : Hd → Bool
  | .set _ _ => true
  | .inc _ => true
  | .rais _ => true
  | _ => false
/-- clauses without names, or one clause with a name -/
def triOk (hs : List (Nat × Hd)) : Bool := !hs.isEmpty && (hs.all (fun p => plainHd p.2) || (hs.length == 1 && hs.all (fun p => !plainHd p.2)))
mutual
/-- ow: what the def hands back is a new list -/
def chkS (fr : Nat → Bool) (ow : Bool) (sc : Scope) (s : Sm) (x : Stmt) : Bool := match s with
  | .asg i e => (match x with
    | .Assign [y] z _ => chkL N sc i y && chkAs sc y z && chkE M N sc e z
    | _ => false)
  | .asgO i e => fresh fr e && (match x with
    | .Assign [y] z _ => chkL N sc i y && chkAs sc y z && chkE M N sc e z
    | _ => false)
  | .frz _ => false
  | .dead => false
  | .app i e => (match x with
    | .Expr (.Call (.Attribute o m ap) [y] [] cp) _ => chkV N sc i o && m == ("append" : Str) && ap.endLine == cp.line && chkE M N sc e y
    | _ => false)
  | .ext i e => (match x with
    | .Expr (.Call (.Attribute o m ap) [y] [] cp) _ => chkV N sc i o && m == ("extend" : Str) && ap.endLine == cp.line && chkE M N sc e y
    | _ => false)
  | .seti i k e => (match x with
    | .Assign [.Subscript o y _] z _ => chkV N sc i o && chkE M N sc k y && chkE M N sc e z
    | _ => false)
  | .ite c a b => (match x with
    | .If t y z _ => chkE M N sc c t && chkB fr ow sc a y && chkB fr ow sc b z
    | _ => false)
  | .whil c b => (match x with
    | .While t y [] _ => chkE M N sc c t && chkB fr ow sc b y
    | _ => false)
  | .forr tg src b => (match x with
    | .For t it y [] _ => zipOk tg src && chkTg N sc tg t && chkSrc M N sc src it && chkB fr ow sc b y
    | _ => false)
  | .ret e => (!ow || fresh fr e) && (match x with
    | .Return (some y) _ => chkE M N sc e y
    | _ => false)
  | .retO i => ow && (match x with
    | .Return (some y) _ => chkV N sc i y
    | _ => false)
  | .expr e => (match x with
    | .Expr y _ => (match y with
      | .ListComp .. => false
      | .SetComp .. => false
      | .DictComp .. => false
      | _ => chkE M N sc e y)
    | _ => false)
  | .rais c => (match x with
    | .Raise (some (.Call f [.Constant (.str _) _ _] [] _)) none _ => M.hc c && glName sc (M.ex c) f
    | _ => false)
  | .tri b hs => (match x with
    | .Try y xs [] [] _ => triOk hs && chkB fr ow sc b y && chkHds M N sc hs xs && (!ow || hs.all fun p => match p.2 with
      | .retIs _ => false
      | _ => true)
    | _ => false)
  | .retB i j e1 e2 => !ow && decide (i ≠ j) && (match x with
    | .Return (some (.Call f [a, b, y, z] [] _)) _ => M.hb && glName sc M.bd f && chkV N sc i a && chkV N sc j b && chkE M N sc e1 y && chkE M N sc e2 z
    | _ => false)
  | .meth v f es => (match x with
    | .Expr (.Call (.Attribute o m ap) (y :: ys) [] cp) _ => M.hb && M.hm f && !fr f && chkV N sc v o && m == M.fn f && ap.endLine == cp.line && decide ((y :: ys).length < 30) && chkEs M N sc es (y :: ys)
    | _ => false)
  | .fset f v e => (f == .goal || fresh fr e) && (match x with
    | .Assign [.Attribute o a _] z _ => M.hb && chkV N sc v o && a == flName f && chkE M N sc e z
    | _ => false)
  | .fsetix f v k e => (match x with
    | .Assign [.Subscript o y _] z _ => quiet k && chkF M N sc f v o && chkE M N sc k y && chkE M N sc e z
    | _ => false)
  | .fapp f v e => (match x with
    | .Expr (.Call (.Attribute o m ap) [y] [] cp) _ => quiet e && chkF M N sc f v o && m == ("append" : Str) && ap.endLine == cp.line && chkE M N sc e y
    | _ => false)
def chkB (fr : Nat → Bool) (ow : Bool) (sc : Scope) (b : Sms) (xs : List Stmt) : Bool := match b with
  | .nil => xs.isEmpty
  | .cons s r => (match s with
    | .frz _ => chkB fr ow sc r xs
    | .dead => true
    | s => (match xs with
      | x :: xs => chkS fr ow sc s x && chkB fr ow sc r xs
      | [] => false))
end
end
end LK

/-! Data over the abstract heap. R: what stands and stays; H: all that stands. -/
namespace LK
open PySem PySem.Spec PyProof.Rows L2

def Sub (H H' : Hp) : Prop := ∀ b o, H b = some o → H' b = some o
theorem Sub.refl (H : Hp) : Sub H H := fun _ _ h => h
theorem Sub.trans {H H1 H2 : Hp} (a : Sub H H1) (b : Sub H1 H2) : Sub H H2 := fun c o h => b c o (a c o h)
theorem Sub.fre {H H' : Hp} (e : Sub H H') {p : Addr} (h : H' p = none) : H p = none := by
  cases q : H p with
  | none => rfl
  | some o =>
    rw [e p o q] at h
    cases h
theorem Sub.new {H : Hp} {p : Addr} {o : HO} (h : H p = none) : Sub H (upd H p o) := fun b u e => by
  rw [upd_ne (ne_of_none e h)]
  exact e
theorem sub_sqL {K : PySem.W.Frag} {H H' : Hp} {a : Addr} {xs : List V} (e : Sub H H') (h : SqL K H a xs) : SqL K H' a xs := by
  rcases h with (h | ⟨o, h⟩) | h
  · exact .inl (.inl (e _ _ h))
  · exact .inl (.inr ⟨o, e _ _ h⟩)
  · exact .inr h
theorem sub_sqT {K : PySem.W.Frag} {H H' : Hp} {a : Addr} {xs : List V} (e : Sub H H') (h : SqT K H a xs) : SqT K H' a xs := by
  rcases h with (h | ⟨o, h⟩) | h
  · exact .inl (.inl (e _ _ h))
  · exact .inl (.inr ⟨o, e _ _ h⟩)
  · exact .inr h

mutual
inductive Rp (K : PySem.W.Frag) (R : Hp) : V → D → Prop
  | non : Rp K R .non .non
  | bl (b : Bool) : Rp K R (.bl b) (.bl b)
  | int (i : Int) : Rp K R (.int i) (.int i)
  | str (s : Str) : Rp K R (.str s) (.str s)
  | tup {a : Addr} {xs : List V} {ds : List D} : SqT K R a xs → Rps K R xs ds → Rp K R (.ref a) (.tup ds)
  | lst {a : Addr} {xs : List V} {ds : List D} : R a = some (.lst xs) → Rps K R xs ds → Rp K R (.ref a) (.lst ds)
  | scr {a : Addr} {ns : List Int} : SqL K R a (ns.map V.int) → Rp K R (.ref a) (.scr ns)
  | brd (p : Addr) : Rp K R (.ref p) (.brd p)
inductive Rps (K : PySem.W.Frag) (R : Hp) : List V → List D → Prop
  | nil : Rps K R [] []
  | cons {v : V} {vs : List V} {d : D} {ds : List D} : Rp K R v d → Rps K R vs ds → Rps K R (v :: vs) (d :: ds)
end
section
variable {K : PySem.W.Frag} {R R' H : Hp}
mutual
theorem Rp.mono (e : Sub R R') : ∀ {v : V} (d : D), Rp K R v d → Rp K R' v d
  | _, .non, .non => .non
  | _, .bl _, .bl _ => .bl _
  | _, .int _, .int _ => .int _
  | _, .str _, .str _ => .str _
  | _, .tup ds, .tup h r => .tup (sub_sqT e h) (Rps.mono e ds r)
  | _, .lst ds, .lst h r => .lst (e _ _ h) (Rps.mono e ds r)
  | _, .scr _, .scr h => .scr (sub_sqL e h)
  | _, .brd _, .brd _ => .brd _
theorem Rps.mono (e : Sub R R') : ∀ {vs : List V} (ds : List D), Rps K R vs ds → Rps K R' vs ds
  | _, [], .nil => .nil
  | _, d :: ds, .cons h r => .cons (Rp.mono e d h) (Rps.mono e ds r)
end
theorem Rps.length : ∀ {vs : List V} {ds : List D}, Rps K R vs ds → vs.length = ds.length
  | _, _, .nil => rfl
  | _, _, .cons _ r => by rw [List.length_cons, List.length_cons, Rps.length r]
theorem Rps.get : ∀ {vs : List V} {ds : List D} {i : Nat} {d : D}, Rps K R vs ds → ds[i]? = some d → ∃ v, vs[i]? = some v ∧ Rp K R v d
  | _, _, _, _, .nil, e => by simp at e
  | _, _, 0, _, .cons h _, e => by
    simp at e
    subst e
    exact ⟨_, rfl, h⟩
  | _, _, i + 1, d, .cons _ r, e => by
    obtain ⟨v, h1, h2⟩ := Rps.get (i := i) (d := d) r (by simpa using e)
    exact ⟨v, by simpa using h1, h2⟩
theorem Rps.getV : ∀ {vs : List V} {ds : List D} {i : Nat} {v : V}, Rps K R vs ds → vs[i]? = some v → ∃ d, ds[i]? = some d ∧ Rp K R v d
  | _, _, _, _, .nil, e => by simp at e
  | _, _, 0, _, .cons h _, e => by
    simp at e
    subst e
    exact ⟨_, rfl, h⟩
  | _, _, i + 1, v, .cons _ r, e => by
    obtain ⟨d, h1, h2⟩ := Rps.getV (i := i) (v := v) r (by simpa using e)
    exact ⟨d, by simpa using h1, h2⟩
theorem Rps.append : ∀ {vs ws : List V} {ds es : List D}, Rps K R vs ds → Rps K R ws es → Rps K R (vs ++ ws) (ds ++ es)
  | _, _, _, _, .nil, s => s
  | _, _, _, _, .cons h r, s => .cons h (Rps.append r s)
theorem Rps.one {v : V} {d : D} (h : Rp K R v d) : Rps K R [v] [d] := .cons h .nil
theorem Rps.take : ∀ {vs : List V} {ds : List D} (n : Nat), Rps K R vs ds → Rps K R (vs.take n) (ds.take n)
  | _, _, 0, _ => .nil
  | _, _, _ + 1, .nil => .nil
  | _, _, n + 1, .cons h r => .cons h (Rps.take n r)
theorem Rps.drop : ∀ {vs : List V} {ds : List D} (n : Nat), Rps K R vs ds → Rps K R (vs.drop n) (ds.drop n)
  | _, _, 0, r => r
  | _, _, _ + 1, .nil => .nil
  | _, _, n + 1, .cons _ r => Rps.drop n r
theorem Rps.set {v : V} {d : D} (h : Rp K R v d) : ∀ {vs : List V} {ds : List D} (i : Nat), Rps K R vs ds → Rps K R (vs.set i v) (ds.set i d)
  | _, _, _, .nil => .nil
  | _, _, 0, .cons _ r => .cons h r
  | _, _, i + 1, .cons q r => .cons q (Rps.set h i r)
theorem Rps.cut {vs : List V} {ds : List D} (lo hi : Option Int) (r : Rps K R vs ds) : Rps K R (cutV vs lo hi) (cutL ds lo hi) := by
  unfold cutV cutL
  rw [r.length]
  exact (r.drop _).take _
theorem Rps.ints : ∀ {vs : List V} {ns : List Int}, Rps K R vs (ns.map .int) → vs = ns.map V.int
  | _, [], .nil => rfl
  | _, n :: ns, .cons (.int _) r => by rw [List.map_cons, Rps.ints r]
theorem Rps.of_ints : ∀ (ns : List Int), Rps K R (ns.map V.int) (ns.map .int)
  | [] => .nil
  | n :: ns => .cons (.int n) (Rps.of_ints ns)
theorem Rps.at {vs : List V} {ds : List D} {i : Int} {d : D} (r : Rps K R vs ds) (h : atI ds i = some d) : ∃ v, atI vs i = some v ∧ Rp K R v d := by
  unfold atI at h ⊢
  rw [r.length]
  cases q : ixN ds.length i with
  | none =>
    rw [q] at h
    cases h
  | some j =>
    rw [q] at h
    exact r.get h
end

/-- a def's entry: the heap, what stays of it, the object handed in -/
structure En where
  H0 : Hp
  R0 : Hp
  b0 : Ob

inductive SlR (K : PySem.W.Frag) (R H : Hp) : Sl → Option V → Prop
  | no {v : Option V} : SlR K R H .no v
  | vl {v : V} {d : D} : Rp K R v d → SlR K R H (.vl d) (some v)
  | ow {p : Addr} {xs : List V} {ds : List D} : H p = some (.lst xs) → Rps K R xs ds → R p = none → SlR K R H (.ow ds) (some (.ref p))
def OwnAt (δ : Env) (σ : L2.St) (i : Nat) (p : Addr) : Prop := ∃ ds, gt δ i = .ow ds ∧ σ[i]? = some (some (.ref p))

/-- the object: its own dict, its lists -/
structure BdA where
  dx : Addr
  ph : Addr
  pt : Addr
  pr : Addr
  pg : Addr
def BdA.own (a : BdA) (p : Addr) (ro : Bool) : List Addr := if ro then [p, a.ph, a.pt, a.pr] else [p, a.ph, a.pt]
def bdFs (a : BdA) : List (Str × V) := [("heads", .ref a.ph), ("tails", .ref a.pt), ("rows", .ref a.pr), ("goal", .ref a.pg)]
theorem bdFs_inj {a c : BdA} {bc : Addr} (h : HO.ins bc a.dx (bdFs a) = HO.ins bc c.dx (bdFs c)) : a = c := by
  obtain ⟨a1, a2, a3, a4, a5⟩ := a
  obtain ⟨c1, c2, c3, c4, c5⟩ := c
  unfold bdFs at h
  simp at h
  obtain ⟨h1, h2, h3, h4, h5⟩ := h
  subst h1 h2 h3 h4 h5
  rfl
/-- what the object may turn -/
def Bo (bc : Addr) (b : Ob) (H : Hp) (q : Addr) : Prop := ∃ p B a, b = some (p, B) ∧ H p = some (.ins bc a.dx (bdFs a)) ∧ q ∈ a.own p B.ro
structure BdR (K : PySem.W.Frag) (bc : Addr) (R H : Hp) (p : Addr) (B : Bd) (a : BdA) : Prop where
  ins : H p = some (.ins bc a.dx (bdFs a))
  hd : ∃ xs, H a.ph = some (.lst xs) ∧ Rps K R xs B.heads
  tl : ∃ xs, H a.pt = some (.lst xs) ∧ Rps K R xs B.tails
  rw : ∃ xs, H a.pr = some (.lst xs) ∧ Rps K R xs B.rows
  gl : ∃ xs, R a.pg = some (.lst xs) ∧ Rps K R xs B.goal
  fz : B.ro = false → ∃ xs, R a.pr = some (.lst xs)
  nr : ∀ q ∈ a.own p B.ro, R q = none
  nd : (a.own p B.ro).Nodup

/-- from (R, H) to (R', H'): new things come, the object's may turn, all else stands -/
structure Stp (bc : Addr) (b b' : Ob) (R H R' H' : Hp) : Prop where
  rr : Sub R R'
  old : ∀ q o, H q = some o → R' q = R q
  dom : ∀ q o, H q = some o → ∃ u, H' q = some u
  out : ∀ q o, H q = some o → ¬ Bo bc b H q → H' q = some o
  bo : ∀ q, Bo bc b' H' q → Bo bc b H q ∨ H q = none

/-- the slots and the heap bear the data -/
structure ER (K : PySem.W.Frag) (bc : Addr) (en : En) (δ : Env) (b : Ob) (σ : L2.St) (R H : Hp) : Prop where
  len : δ.length = σ.length
  sub : Sub R H
  stp : Stp bc en.b0 b en.R0 en.H0 R H
  sl : ∀ i v, σ[i]? = some v → SlR K R H (gt δ i) v
  own : ∀ i p, OwnAt δ σ i p → en.H0 p = none
  dis : ∀ i j p, OwnAt δ σ i p → OwnAt δ σ j p → i = j
  bd : ∀ p B, b = some (p, B) → ∃ a, BdR K bc R H p B a ∧ ∀ i q, OwnAt δ σ i q → q ∉ a.own p B.ro

theorem gt_st_same : ∀ {δ : Env} {i : Nat} {x : Sl}, i < δ.length → gt (st δ i x) i = x
  | [], _, _, h => absurd h (Nat.not_lt_zero _)
  | _ :: _, 0, _, _ => rfl
  | _ :: r, n + 1, x, h => gt_st_same (δ := r) (Nat.lt_of_succ_lt_succ h)
theorem gt_st_ne : ∀ {δ : Env} {i j : Nat} {x : Sl}, j ≠ i → gt (st δ i x) j = gt δ j
  | [], _, _, _, _ => rfl
  | _ :: _, 0, 0, _, h => absurd rfl h
  | _ :: _, 0, _ + 1, _, _ => rfl
  | _ :: _, _ + 1, 0, _, _ => rfl
  | _ :: r, n + 1, m + 1, x, h => gt_st_ne (δ := r) fun e => h (by rw [e])
theorem st_length : ∀ {δ : Env} {i : Nat} {x : Sl}, (st δ i x).length = δ.length
  | [], _, _ => rfl
  | _ :: _, 0, _ => rfl
  | _ :: r, n + 1, x => by
    show (st r n x).length + 1 = r.length + 1
    rw [st_length]
theorem st_st : ∀ {δ : Env} {i : Nat} {x y : Sl}, st (st δ i x) i y = st δ i y
  | [], _, _, _ => rfl
  | _ :: _, 0, _, _ => rfl
  | z :: r, n + 1, x, y => by
    show z :: st (st r n x) n y = z :: st r n y
    rw [st_st]
theorem gt_no : ∀ {δ : Env} {i : Nat}, δ.length ≤ i → gt δ i = .no
  | [], _, _ => rfl
  | _ :: _, 0, h => absurd h (by simp)
  | _ :: r, n + 1, h => gt_no (δ := r) (by simpa using h)
theorem gt_lt {δ : Env} {i : Nat} (h : gt δ i ≠ .no) : i < δ.length := by
  by_cases q : i < δ.length
  · exact q
  · exact absurd (gt_no (Nat.le_of_not_lt q)) h

section
variable {K : PySem.W.Frag} {bc : Addr} {en : En} {δ : Env} {b b' b1 b2 : Ob} {σ : L2.St} {R H R' H' R1 H1 R2 H2 : Hp} {p : Addr} {B : Bd} {a : BdA}

theorem ER.at (I : ER K bc en δ b σ R H) {i : Nat} (h : gt δ i ≠ .no) : ∃ v, σ[i]? = some v ∧ SlR K R H (gt δ i) v := by
  have hi : i < σ.length := by
    rw [← I.len]
    exact gt_lt h
  exact ⟨σ[i], List.getElem?_eq_getElem hi, I.sl i _ (List.getElem?_eq_getElem hi)⟩
theorem ER.val (I : ER K bc en δ b σ R H) {i : Nat} {d : D} (h : gt δ i = .vl d) : ∃ v, σ[i]? = some (some v) ∧ Rp K R v d := by
  obtain ⟨v, h1, h2⟩ := I.at (i := i) (by rw [h]; simp)
  rw [h] at h2
  cases h2 with
  | vl r => exact ⟨_, h1, r⟩
theorem ER.owl (I : ER K bc en δ b σ R H) {i : Nat} {ds : List D} (h : gt δ i = .ow ds) : ∃ p xs, σ[i]? = some (some (.ref p)) ∧ OwnAt δ σ i p ∧ H p = some (.lst xs) ∧ Rps K R xs ds ∧ R p = none := by
  obtain ⟨v, h1, h2⟩ := I.at (i := i) (by rw [h]; simp)
  rw [h] at h2
  cases h2 with
  | ow a c d => exact ⟨_, _, h1, ⟨ds, h, h1⟩, a, c, d⟩
theorem ER.ownH (I : ER K bc en δ b σ R H) {i : Nat} {q : Addr} (h : OwnAt δ σ i q) : ∃ xs, H q = some (.lst xs) ∧ R q = none := by
  obtain ⟨ds, h1, h2⟩ := h
  obtain ⟨p', xs, e1, _, e2, e3, e4⟩ := I.owl h1
  rw [h2] at e1
  cases e1
  exact ⟨xs, e2, e4⟩
theorem BdR.tr (r : BdR K bc R H p B a) : ∀ q ∈ a.own p B.ro, ∃ o, H q = some o := fun q hq => by
  unfold BdA.own at hq
  obtain ⟨x1, h1, _⟩ := r.hd
  obtain ⟨x2, h2, _⟩ := r.tl
  obtain ⟨x3, h3, _⟩ := r.rw
  have h0 := r.ins
  split at hq
  · simp only [List.mem_cons, List.not_mem_nil, or_false] at hq
    rcases hq with e | e | e | e
    · rw [e]; exact ⟨_, h0⟩
    · rw [e]; exact ⟨_, h1⟩
    · rw [e]; exact ⟨_, h2⟩
    · rw [e]; exact ⟨_, h3⟩
  · simp only [List.mem_cons, List.not_mem_nil, or_false] at hq
    rcases hq with e | e | e
    · rw [e]; exact ⟨_, h0⟩
    · rw [e]; exact ⟨_, h1⟩
    · rw [e]; exact ⟨_, h2⟩
theorem Bo.iff (r : BdR K bc R H p B a) {q : Addr} : Bo bc (some (p, B)) H q ↔ q ∈ a.own p B.ro := by
  constructor
  · rintro ⟨p', B', a', e, h, hq⟩
    cases e
    have e2 := bdFs_inj (Option.some.inj (r.ins.symm.trans h))
    rw [e2]
    exact hq
  · exact fun hq => ⟨p, B, a, rfl, r.ins, hq⟩
/-- what the object may turn is neither kept nor a slot's own -/
theorem ER.bo_no (I : ER K bc en δ b σ R H) {q : Addr} (h : Bo bc b H q) : R q = none ∧ (∀ i, ¬ OwnAt δ σ i q) ∧ ∃ o, H q = some o := by
  obtain ⟨p, B, a, e, hp, hq⟩ := h
  obtain ⟨a', r, n⟩ := I.bd p B e
  have e2 := bdFs_inj (Option.some.inj (r.ins.symm.trans hp))
  subst e2
  exact ⟨r.nr q hq, fun i o => n i q o hq, r.tr q hq⟩

theorem Stp.refl (h : Sub R H) : Stp bc b b R H R H := ⟨Sub.refl _, fun _ _ _ => rfl, fun _ o e => ⟨o, e⟩, fun _ _ e _ => e, fun _ h => .inl h⟩
theorem Stp.trans (x : Stp bc b b1 R H R1 H1) (y : Stp bc b1 b2 R1 H1 R2 H2) : Stp bc b b2 R H R2 H2 where
  rr := x.rr.trans y.rr
  old := fun q o e => by
    obtain ⟨u, hu⟩ := x.dom q o e
    exact (y.old q u hu).trans (x.old q o e)
  dom := fun q o e => by
    obtain ⟨u, hu⟩ := x.dom q o e
    exact y.dom q u hu
  out := fun q o e n => y.out q o (x.out q o e n) fun h => by
    rcases x.bo q h with z | z
    · exact n z
    · rw [e] at z; cases z
  bo := fun q h => by
    rcases y.bo q h with z | z
    · exact x.bo q z
    · refine .inr ?_
      cases e : H q with
      | none => rfl
      | some o =>
        obtain ⟨u, hu⟩ := x.dom q o e
        rw [hu] at z; cases z
theorem Stp.forget (x : Stp bc b b1 R H R1 H1) : Stp bc b none R H R1 H1 := ⟨x.rr, x.old, x.dom, x.out, fun _ ⟨_, _, _, e, _⟩ => nomatch e⟩
theorem ER.forget (I : ER K bc en δ b σ R H) : ER K bc en δ none σ R H := ⟨I.len, I.sub, I.stp.forget, I.sl, I.own, I.dis, fun _ _ e => nomatch e⟩

/-- a step keeps what the slots bear -/
theorem ER.go (I : ER K bc en δ b σ R H) (x : Stp bc b b' R H R' H') (hs : Sub R' H') (hb : ∀ p B, b' = some (p, B) → ∃ a, BdR K bc R' H' p B a) : ER K bc en δ b' σ R' H' where
  len := I.len
  sub := hs
  stp := I.stp.trans x
  sl := fun i v e => by
    have h := I.sl i v e
    cases hg : gt δ i with
    | no => exact .no
    | vl d =>
      rw [hg] at h
      cases h with
      | vl r => exact .vl (r.mono x.rr)
    | ow ds =>
      rw [hg] at h
      cases h with
      | ow h1 h2 h3 => exact .ow (x.out _ _ h1 fun z => (I.bo_no z).2.1 i ⟨ds, hg, e⟩) (h2.mono x.rr) ((x.old _ _ h1).trans h3)
  own := I.own
  dis := I.dis
  bd := fun p B e => by
    obtain ⟨a, r⟩ := hb p B e
    refine ⟨a, r, fun i q o hq => ?_⟩
    obtain ⟨xs, h1, _⟩ := I.ownH o
    rcases x.bo q (by rw [e]; exact (Bo.iff r).mpr hq) with z | z
    · exact (I.bo_no z).2.1 i o
    · rw [h1] at z; cases z

/-- new things only -/
structure Grow (R H R' H' : Hp) : Prop where
  rr : Sub R R'
  sub : Sub R' H'
  hh : Sub H H'
  old : ∀ q o, H q = some o → R' q = R q
theorem Grow.refl (h : Sub R H) : Grow R H R H := ⟨Sub.refl _, h, Sub.refl _, fun _ _ _ => rfl⟩
theorem Grow.new {p : Addr} {o : HO} (h : Sub R H) (n : H p = none) : Grow R H (upd R p o) (upd H p o) := by
  have nR : R p = none := h.fre n
  refine ⟨Sub.new nR, fun q u e => ?_, Sub.new n, fun q u e => ?_⟩
  · by_cases hq : q = p
    · subst hq
      rw [upd_same] at e ⊢
      exact e
    · rw [upd_ne hq] at e ⊢
      exact h q u e
  · rw [upd_ne (ne_of_none e n)]
/-- a new thing that is not kept -/
theorem Grow.loose {p : Addr} {o : HO} (h : Sub R H) (n : H p = none) : Grow R H R (upd H p o) :=
  ⟨Sub.refl _, fun q u e => Sub.new n q u (h q u e), Sub.new n, fun _ _ _ => rfl⟩
theorem Grow.trans (x : Grow R H R1 H1) (y : Grow R1 H1 R2 H2) : Grow R H R2 H2 :=
  ⟨x.rr.trans y.rr, y.sub, x.hh.trans y.hh, fun q o e => (y.old q o (x.hh q o e)).trans (x.old q o e)⟩
theorem BdR.grow (g : Grow R H R' H') (r : BdR K bc R H p B a) : BdR K bc R' H' p B a := by
  obtain ⟨x1, h1, q1⟩ := r.hd
  obtain ⟨x2, h2, q2⟩ := r.tl
  obtain ⟨x3, h3, q3⟩ := r.rw
  obtain ⟨x4, h4, q4⟩ := r.gl
  refine ⟨g.hh _ _ r.ins, ⟨x1, g.hh _ _ h1, q1.mono g.rr⟩, ⟨x2, g.hh _ _ h2, q2.mono g.rr⟩, ⟨x3, g.hh _ _ h3, q3.mono g.rr⟩, ⟨x4, g.rr _ _ h4, q4.mono g.rr⟩, fun e => ?_, fun q hq => ?_, r.nd⟩
  · obtain ⟨xs, h⟩ := r.fz e
    exact ⟨xs, g.rr _ _ h⟩
  · obtain ⟨o, ho⟩ := r.tr q hq
    exact (g.old q o ho).trans (r.nr q hq)
theorem ER.stpG (I : ER K bc en δ b σ R H) (g : Grow R H R' H') : Stp bc b b R H R' H' :=
  ⟨g.rr, g.old, fun q o e => ⟨o, g.hh q o e⟩, fun q o e _ => g.hh q o e, fun q h => .inl (by
    obtain ⟨p, B, a, e, hp, hq⟩ := h
    obtain ⟨a', r, _⟩ := I.bd p B e
    have e2 := bdFs_inj (Option.some.inj ((g.hh _ _ r.ins).symm.trans hp))
    subst e2
    exact ⟨p, B, a', e, r.ins, hq⟩)⟩
theorem ER.grow (I : ER K bc en δ b σ R H) (g : Grow R H R' H') : ER K bc en δ b σ R' H' :=
  I.go (I.stpG g) g.sub fun p B e => by
    obtain ⟨a, r, _⟩ := I.bd p B e
    exact ⟨a, r.grow g⟩

/-- a list of nobody's: new since the entry, not kept, no slot's, not the object's -/
structure Fre (bc : Addr) (en : En) (δ : Env) (b : Ob) (σ : L2.St) (R H : Hp) (p : Addr) : Prop where
  h0 : en.H0 p = none
  nr : R p = none
  no : ∀ i, ¬ OwnAt δ σ i p
  nb : ¬ Bo bc b H p
theorem ER.freN (I : ER K bc en δ b σ R H) {q : Addr} (n : H q = none) : Fre bc en δ b σ R H q where
  h0 := by
    cases e : en.H0 q with
    | none => rfl
    | some o =>
      obtain ⟨u, hu⟩ := I.stp.dom q o e
      rw [n] at hu; cases hu
  nr := I.sub.fre n
  no := fun i o => by
    obtain ⟨xs, h, _⟩ := I.ownH o
    rw [n] at h; cases h
  nb := fun z => by
    obtain ⟨_, _, o, h⟩ := I.bo_no z
    rw [n] at h; cases h
/-- still nobody's behind a step from where it was untracked .. -/
theorem ER.freG (I : ER K bc en δ b σ R H) {q : Addr} (n : H q = none) (x : Stp bc b b' R H R' H') (nr : R' q = none) (nb : ¬ Bo bc b' H' q) : Fre bc en δ b' σ R' H' q := ⟨(I.freN n).h0, nr, (I.freN n).no, nb⟩

/-- a list is kept from now on -/
theorem ER.keep (I : ER K bc en δ b σ R H) {q : Addr} {o : HO} (f : Fre bc en δ b σ R H q) (hq : H q = some o) : ER K bc en δ b σ (upd R q o) H := by
  have rr : Sub R (upd R q o) := Sub.new f.nr
  refine ⟨I.len, fun c u e => ?_, ⟨I.stp.rr.trans rr, fun c u e => ?_, I.stp.dom, I.stp.out, I.stp.bo⟩, fun i v e => ?_, I.own, I.dis, fun p B e => ?_⟩
  · by_cases hc : c = q
    · subst hc
      rw [upd_same] at e
      rw [hq]
      exact e
    · rw [upd_ne hc] at e
      exact I.sub c u e
  · rw [upd_ne (ne_of_none e f.h0)]
    exact I.stp.old c u e
  · have h := I.sl i v e
    cases hg : gt δ i with
    | no => exact .no
    | vl d =>
      rw [hg] at h
      cases h with
      | vl r => exact .vl (r.mono rr)
    | ow ds =>
      rw [hg] at h
      cases h with
      | ow h1 h2 h3 =>
        refine .ow h1 (h2.mono rr) ?_
        rw [upd_ne]
        · exact h3
        · rintro rfl
          exact f.no i ⟨ds, hg, e⟩
  · obtain ⟨a, r, n⟩ := I.bd p B e
    obtain ⟨x1, h1, q1⟩ := r.hd
    obtain ⟨x2, h2, q2⟩ := r.tl
    obtain ⟨x3, h3, q3⟩ := r.rw
    obtain ⟨x4, h4, q4⟩ := r.gl
    refine ⟨a, ⟨r.ins, ⟨x1, h1, q1.mono rr⟩, ⟨x2, h2, q2.mono rr⟩, ⟨x3, h3, q3.mono rr⟩, ⟨x4, rr _ _ h4, q4.mono rr⟩, fun z => ?_, fun c hc => ?_, r.nd⟩, n⟩
    · obtain ⟨xs, h⟩ := r.fz z
      exact ⟨xs, rr _ _ h⟩
    · rw [upd_ne]
      · exact r.nr c hc
      · rintro rfl
        exact f.nb (by rw [e]; exact (Bo.iff r).mpr hc)

/-! ### stores -/
theorem OwnAt.st_ne {i j : Nat} {x : Sl} {v : Option V} {q : Addr} (h : j ≠ i) : OwnAt (st δ i x) (σ.set i v) j q ↔ OwnAt δ σ j q := by
  unfold OwnAt
  rw [gt_st_ne h, List.getElem?_set_ne (Ne.symm h)]
theorem OwnAt.st_vl {i : Nat} {x : Sl} {v : Option V} {q : Addr} (hx : ∀ ds, x ≠ .ow ds) : ¬ OwnAt (st δ i x) (σ.set i v) i q := by
  rintro ⟨ds, h, _⟩
  by_cases hi : i < δ.length
  · rw [gt_st_same hi] at h
    exact hx ds h
  · rw [gt_no (by rw [st_length]; omega)] at h
    cases h
theorem ER.set (I : ER K bc en δ b σ R H) {i : Nat} {x : Sl} {v : Option V} (h : SlR K R H x v) (hx : ∀ ds, x ≠ .ow ds) : ER K bc en (st δ i x) b (σ.set i v) R H := by
  have back : ∀ j q, OwnAt (st δ i x) (σ.set i v) j q → OwnAt δ σ j q := fun j q o => by
    by_cases hj : j = i
    · subst hj
      exact absurd o (OwnAt.st_vl hx)
    · exact (OwnAt.st_ne hj).mp o
  refine ⟨by rw [st_length, List.length_set]; exact I.len, I.sub, I.stp, fun j u e => ?_, fun j q o => I.own j q (back j q o), fun j k q o1 o2 => I.dis j k q (back j q o1) (back k q o2), fun p B e => ?_⟩
  · by_cases hj : j = i
    · subst hj
      by_cases hl : j < σ.length
      · rw [List.getElem?_set_self hl] at e
        cases e
        rw [gt_st_same (by rw [I.len]; exact hl)]
        exact h
      · rw [List.getElem?_eq_none (by simpa using hl)] at e
        cases e
    · rw [List.getElem?_set_ne (Ne.symm hj)] at e
      rw [gt_st_ne hj]
      exact I.sl j u e
  · obtain ⟨a, r, n⟩ := I.bd p B e
    exact ⟨a, r, fun j q o => n j q (back j q o)⟩
theorem ER.setV (I : ER K bc en δ b σ R H) {i : Nat} {d : D} {v : V} (h : Rp K R v d) : ER K bc en (st δ i (.vl d)) b (σ.set i (some v)) R H := I.set (.vl h) fun _ z => nomatch z
theorem ER.setN (I : ER K bc en δ b σ R H) {i : Nat} {v : Option V} : ER K bc en (st δ i .no) b (σ.set i v) R H := I.set .no fun _ z => nomatch z
theorem ER.setO (I : ER K bc en δ b σ R H) {i : Nat} {p : Addr} {xs : List V} {ds : List D} (f : Fre bc en δ b σ R H p) (h : H p = some (.lst xs)) (r : Rps K R xs ds) : ER K bc en (st δ i (.ow ds)) b (σ.set i (some (.ref p))) R H := by
  have back : ∀ j q, OwnAt (st δ i (.ow ds)) (σ.set i (some (.ref p))) j q → (j = i ∧ q = p) ∨ (j ≠ i ∧ OwnAt δ σ j q) := fun j q o => by
    by_cases hj : j = i
    · refine .inl ⟨hj, ?_⟩
      subst hj
      obtain ⟨es, _, e⟩ := o
      by_cases hl : j < σ.length
      · rw [List.getElem?_set_self hl] at e
        cases e
        rfl
      · rw [List.getElem?_eq_none (by simpa using hl)] at e
        cases e
    · exact .inr ⟨hj, (OwnAt.st_ne hj).mp o⟩
  refine ⟨by rw [st_length, List.length_set]; exact I.len, I.sub, I.stp, fun j u e => ?_, fun j q o => ?_, fun j k q o1 o2 => ?_, fun p' B e => ?_⟩
  · by_cases hj : j = i
    · subst hj
      by_cases hl : j < σ.length
      · rw [List.getElem?_set_self hl] at e
        cases e
        rw [gt_st_same (by rw [I.len]; exact hl)]
        exact .ow h r f.nr
      · rw [List.getElem?_eq_none (by simpa using hl)] at e
        cases e
    · rw [List.getElem?_set_ne (Ne.symm hj)] at e
      rw [gt_st_ne hj]
      exact I.sl j u e
  · rcases back j q o with ⟨_, e⟩ | ⟨_, o'⟩
    · rw [e]; exact f.h0
    · exact I.own j q o'
  · rcases back j q o1 with ⟨e1, e2⟩ | ⟨_, o1'⟩
    · rcases back k q o2 with ⟨e3, _⟩ | ⟨_, o2'⟩
      · rw [e1, e3]
      · rw [e2] at o2'; exact absurd o2' (f.no k)
    · rcases back k q o2 with ⟨_, e4⟩ | ⟨_, o2'⟩
      · rw [e4] at o1'; exact absurd o1' (f.no j)
      · exact I.dis j k q o1' o2'
  · obtain ⟨a, r', n⟩ := I.bd p' B e
    refine ⟨a, r', fun j q o hq => ?_⟩
    rcases back j q o with ⟨_, e2⟩ | ⟨_, o'⟩
    · rw [e2] at hq
      exact f.nb (by rw [e]; exact (Bo.iff r').mpr hq)
    · exact n j q o' hq
/-- the own list of a slot is turned -/
theorem ER.turn (I : ER K bc en δ b σ R H) {i : Nat} {p : Addr} {xs : List V} {ds : List D} (o : OwnAt δ σ i p) (r : Rps K R xs ds) : ER K bc en (st δ i (.ow ds)) b σ R (upd H p (.lst xs)) := by
  obtain ⟨zs, hp, nR⟩ := I.ownH o
  have h0 := I.own i p o
  obtain ⟨es, hg, hσ⟩ := id o
  have hi : i < δ.length := gt_lt (by rw [hg]; simp)
  have nbo : ∀ q, Bo bc b H q → q ≠ p := fun q z e => by
    subst e
    exact (I.bo_no z).2.1 i o
  have bo' : ∀ q, Bo bc b (upd H p (.lst xs)) q → Bo bc b H q := fun q ⟨p', B, a, e, h, hq⟩ => by
    by_cases hz : p' = p
    · subst hz
      rw [upd_same] at h
      cases h
    · rw [upd_ne hz] at h
      exact ⟨p', B, a, e, h, hq⟩
  have back : ∀ j q, OwnAt (st δ i (.ow ds)) σ j q → OwnAt δ σ j q := fun j q ⟨fs, h1, h2⟩ => by
    by_cases hj : j = i
    · subst hj
      exact ⟨es, hg, h2⟩
    · rw [gt_st_ne hj] at h1
      exact ⟨fs, h1, h2⟩
  refine ⟨by rw [st_length]; exact I.len, fun c u e => ?_, ⟨I.stp.rr, I.stp.old, fun c u e => ?_, fun c u e n => ?_, fun c z => I.stp.bo c (bo' c z)⟩, fun j u e => ?_, fun j q o' => I.own j q (back j q o'), fun j k q o1 o2 => I.dis j k q (back j q o1) (back k q o2), fun p' B e => ?_⟩
  · rw [upd_ne (ne_of_none e nR)]
    exact I.sub c u e
  · by_cases hc : c = p
    · subst hc
      exact ⟨_, upd_same⟩
    · rw [upd_ne hc]
      exact I.stp.dom c u e
  · rw [upd_ne (ne_of_none e h0)]
    exact I.stp.out c u e n
  · by_cases hj : j = i
    · subst hj
      rw [hσ] at e
      cases e
      rw [gt_st_same hi]
      exact .ow upd_same r nR
    · rw [gt_st_ne hj]
      have h := I.sl j u e
      cases hg2 : gt δ j with
      | no => exact .no
      | vl d =>
        rw [hg2] at h
        cases h with
        | vl r => exact .vl r
      | ow fs =>
        rw [hg2] at h
        cases h with
        | ow h1 h2 h3 =>
          refine .ow ?_ h2 h3
          rw [upd_ne]
          · exact h1
          · rintro rfl
            exact hj (I.dis j i _ ⟨fs, hg2, e⟩ o)
  · obtain ⟨a, r', n⟩ := I.bd p' B e
    have hn : ∀ q ∈ a.own p' B.ro, q ≠ p := fun q hq z => n i q (by rw [z]; exact o) hq
    obtain ⟨x1, h1, q1⟩ := r'.hd
    obtain ⟨x2, h2, q2⟩ := r'.tl
    obtain ⟨x3, h3, q3⟩ := r'.rw
    have m0 : p' ∈ a.own p' B.ro := by unfold BdA.own; split <;> simp
    have m1 : a.ph ∈ a.own p' B.ro := by unfold BdA.own; split <;> simp
    have m2 : a.pt ∈ a.own p' B.ro := by unfold BdA.own; split <;> simp
    have m3 : a.pr ≠ p := by
      by_cases hz : B.ro = true
      · exact hn _ (by unfold BdA.own; rw [if_pos hz]; simp)
      · obtain ⟨ys, hy⟩ := r'.fz (by simpa using hz)
        exact ne_of_none hy nR
    refine ⟨a, ⟨?_, ⟨x1, ?_, q1⟩, ⟨x2, ?_, q2⟩, ⟨x3, ?_, q3⟩, r'.gl, r'.fz, r'.nr, r'.nd⟩, fun j q o' => n j q (back j q o')⟩
    · rw [upd_ne (hn _ m0)]; exact r'.ins
    · rw [upd_ne (hn _ m1)]; exact h1
    · rw [upd_ne (hn _ m2)]; exact h2
    · rw [upd_ne m3]; exact h3
/-- the own list of a slot is kept from now on -/
theorem ER.freeze (I : ER K bc en δ b σ R H) {i : Nat} {ds : List D} (h : gt δ i = .ow ds) : ∃ p xs, σ[i]? = some (some (.ref p)) ∧ R p = none ∧ H p = some (.lst xs) ∧ Rps K (upd R p (.lst xs)) xs ds ∧
    ER K bc en (st δ i (.vl (.lst ds))) b σ (upd R p (.lst xs)) H := by
  obtain ⟨p, xs, e1, o, e2, e3, e4⟩ := I.owl h
  have hi : i < δ.length := gt_lt (by rw [h]; simp)
  have J : ER K bc en (st δ i .no) b (σ.set i none) R H := I.setN
  have f : Fre bc en (st δ i .no) b (σ.set i none) R H p := by
    refine ⟨I.own i p o, e4, fun j o' => ?_, fun z => (I.bo_no z).2.1 i o⟩
    by_cases hj : j = i
    · subst hj
      exact OwnAt.st_vl (x := .no) (fun _ z => by cases z) o'
    · exact hj (I.dis j i p ((OwnAt.st_ne hj).mp o') o)
  have J2 := J.keep f e2
  have r2 : Rps K (upd R p (.lst xs)) xs ds := e3.mono (Sub.new e4)
  have J3 := J2.setV (i := i) (d := .lst ds) (v := .ref p) (.lst upd_same r2)
  have a1 : st (st δ i .no) i (.vl (.lst ds)) = st δ i (.vl (.lst ds)) := st_st
  have a2 : (σ.set i none).set i (some (.ref p)) = σ := by
    rw [List.set_set]
    obtain ⟨hl, he⟩ := List.getElem?_eq_some_iff.mp e1
    rw [← he, List.set_getElem_self]
  rw [a1, a2] at J3
  exact ⟨p, xs, e1, e4, e2, r2, J3⟩
end
end LK

/-! What a text of the language leans on; operations. -/
namespace LK
open PySem PySem.Spec PyProof.Rows L2

structure Sy where
  G : Gm
  M : Nms
  ca : Nat → Addr
  bc : Addr
/-- what a call leaves -/
def Out (K : PySem.W.Frag) (S : Sy) (f : Nat) (en : En) (d : D) (b' : Ob) (v : V) (R' H' : Hp) : Prop :=
  if S.G.fr f = true then ∃ ds, d = .lst ds ∧ ER K S.bc en [.ow ds] b' [some v] R' H' else ER K S.bc en [.vl d] b' [some v] R' H'
/-- a def's promise over the heap, from its promise on data -/
def spOf (K : PySem.W.Frag) (S : Sy) (f : Nat) : Sp := fun vs H Q E => ∃ (ds : List D) (b : Ob) (R : Hp) (Q' : D → Ob → Prop) (E' : Nat → Prop),
  ER K S.bc ⟨H, R, b⟩ (ds.map .vl) b (vs.map some) R H ∧ S.G.sp f ds b Q' E' ∧ (∀ d b' v R' H', Out K S f ⟨H, R, b⟩ d b' v R' H' → Q' d b' → Q v H') ∧
  (∀ c R' H', S.M.hc c = true → ER K S.bc ⟨H, R, b⟩ [] none [] R' H' → E' c → E (.ref (S.ca c)) none H')

def bltNames : List Str := ["abs", "len", "tuple", "list", "int", "str", "sum", "isinstance", "bool", "max", "min", "range", "zip", "ValueError"]
structure ExcF (K : PySem.W.Frag) (mg : Str → Option Value) (S : Sy) (c : Nat) : Prop where
  g : mg (S.M.ex c) = some (.ref (S.ca c))
  x : PySem.W.excIn K (S.ca c) [.type "ValueError", .type "Exception", .type "BaseException", .type "object"] "ValueError.__new__" = true
  k : PySem.W.keepIn K (.ref (S.ca c)) = true
  b : PySem.W.subIn K (.ref (S.ca c)) (.type "BaseException") = some true
  t : PySem.W.typeIn K (.ref (S.ca c)) = some (.type "type")
  i : ExcC K (S.ca c)
  v : PySem.W.kitOne K (.ref (S.ca c)) (.type "ValueError") = some true
structure FnF (P : Program) (w : World) (K : PySem.W.Frag) (mg : Str → Option Value) (base : Heap) (S : Sy) (lv f : Nat) (a : Addr) : Prop where
  k : PySem.W.keepIn K (.ref a) = true
  ok : ∃ fd ps, Binds K fd ps [] ∧ FnOk P w K mg base (L2.CX P w) lv a fd ps (spOf K S f)
/-- the object's class -/
structure BdF (P : Program) (w : World) (K : PySem.W.Frag) (mg : Str → Option Value) (base : Heap) (S : Sy) (lv : Nat) : Prop where
  g : mg S.M.bd = some (.ref S.bc)
  c : Cls K S.bc
  n : ∀ f, NoAttr K S.bc (flName f)
  mak : ∃ fi fdi, Mk K S.bc fi ∧ Binds K fdi ["self", "heads", "tails", "rows", "goal"] [] ∧ FnOk P w K mg base (L2.CX P w) lv fi fdi ["self", "heads", "tails", "rows", "goal"]
    (fun vs H Q _ => ∃ p dx h t r g, vs = [.ref p, h, t, r, g] ∧ H p = some (.ins S.bc dx []) ∧ Q .non (upd H p (.ins S.bc dx [("heads", h), ("tails", t), ("rows", r), ("goal", g)])))
structure Facts (P : Program) (w : World) (K : PySem.W.Frag) (mg : Str → Option Value) (base : Heap) (S : Sy) (lv : Nat) : Prop where
  fn : ∀ f, S.M.hf f = true → ∃ a, mg (S.M.fn f) = some (.ref a) ∧ FnF P w K mg base S lv f a
  mt : ∀ f, S.M.hm f = true → (∀ a : BdA, (bdFs a).lookup (S.M.fn f) = none) ∧ ∃ a, Meth K S.bc (S.M.fn f) a ∧ FnF P w K mg base S lv f a
  bl : ∀ x ∈ bltNames, mg x = none
  gl : ∀ g, S.M.hg g = true → ∃ u v, mg (S.M.gl g) = some u ∧ RelV v u ∧ Rp K (fun _ => none) v (S.G.gc g)
  ex : ∀ c, S.M.hc c = true → ExcF K mg S c
  em : ∀ c d, S.M.hc c = true → S.M.hc d = true → PySem.W.exmOne K (.ref (S.ca c)) (.ref (S.ca d)) = some (subC c d)
  bd : S.M.hb = true → BdF P w K mg base S lv
/-- the context of a body -/
structure CK (S : Sy) (N : List Str) (sc : Scope) (X : Cx) (W : WX) (lv : Nat) : Prop where
  fs : Facts X.prog X.w X.K X.mg X.base S lv
  calm : X.calm = true
  n : X.N = N
  nd : N.Nodup
  sc : X.env.scope = sc
  tk : Takes X W
  room : Room (lv + 1) X.A

theorem peImp {X : Cx} {e : Expr} {t t' : TE} (h : PE X e t) (i : ∀ σ H Q, t' σ H Q → t σ H Q) : PE X e t' := ⟨fun pins s σ H Q I hw => h.run pins s σ H Q I (i σ H Q hw)⟩
theorem ptImp {X : Cx} {e : Expr} {t t' : TT} (h : PT X e t) (i : ∀ σ H Q, t' σ H Q → t σ H Q) : PT X e t' := ⟨fun pins s σ H Q I hw => h.run pins s σ H Q I (i σ H Q hw)⟩
theorem paImp {X : Cx} {e : List Expr} {t t' : TA} (h : PA X e t) (i : ∀ σ H Q, t' σ H Q → t σ H Q) : PA X e t' := ⟨fun pos pins s σ H Q I hw => h.run pos pins s σ H Q I (i σ H Q hw)⟩
theorem psImp {X : Cx} {e : Stmt} {t t' : TS} (h : PS X e t) (i : ∀ D σ H, t' D σ H → t D σ H) : PS X e t' := ⟨fun pins s σ H D I hw => h.run pins s σ H D I (i D σ H hw)⟩
theorem pssImp {X : Cx} {e : List Stmt} {t t' : TS} (h : PSs X e t) (i : ∀ D σ H, t' D σ H → t D σ H) : PSs X e t' := ⟨fun pins s σ H D I hw => h.run pins s σ H D I (i D σ H hw)⟩
theorem piImp {X : Cx} {tg e : Expr} {t t' : TI} (h : PI X tg e t) (i : ∀ σ H R, t' σ H R → t σ H R) : PI X tg e t' := ⟨fun pins s σ H R I hw => h.run pins s σ H R I (i σ H R hw)⟩
theorem opImp {X : Cx} {f : Value → Value → Sem Value} {r r' : R2} (h : OpR X f r) (i : ∀ x y H Q, r' x y H Q → r x y H Q) : OpR X f r' := fun pins s σ H x y v u Q I rx ry q => h pins s σ H x y v u Q I rx ry (i _ _ _ _ q)
theorem callImp {X : Cx} {f : Value} {r r' : List V → Hp → VK → Prop} (h : CallR X f r) (i : ∀ xs H Q, r' xs H Q → r xs H Q) : CallR X f r' := fun pins s σ H xs us Q I rx q => h pins s σ H xs us Q I rx (i _ _ _ q)

/-! ### operations -/
/-- an operation on one datum, on two -/
def r1 (K : PySem.W.Frag) (o : O1) : V → Hp → VK → Prop := fun x H Q => ∃ (R : Hp) (dx : D) (Q' : D → Prop), Sub R H ∧ Rp K R x dx ∧ w1 o dx Q' ∧ ∀ z v R' H', Grow R H R' H' → Rp K R' v z → Q' z → Q v H'
def r2 (K : PySem.W.Frag) (o : O2) : R2 := fun x y H Q => ∃ (R : Hp) (dx dy : D) (Q' : D → Prop), Sub R H ∧ Rp K R x dx ∧ Rp K R y dy ∧ w2 o dx dy Q' ∧ ∀ z v R' H', Grow R H R' H' → Rp K R' v z → Q' z → Q v H'
/-- .. whose answer is a new list -/
def r1f (K : PySem.W.Frag) (o : O1) : V → Hp → VK → Prop := fun x H Q => ∃ (R : Hp) (dx : D) (Q' : D → Prop), Sub R H ∧ Rp K R x dx ∧ w1 o dx Q' ∧ ∀ ds xs p, H p = none → Rps K R xs ds → Q' (.lst ds) → Q (.ref p) (upd H p (.lst xs))
def r2f (K : PySem.W.Frag) (o : O2) : R2 := fun x y H Q => ∃ (R : Hp) (dx dy : D) (Q' : D → Prop), Sub R H ∧ Rp K R x dx ∧ Rp K R y dy ∧ w2 o dx dy Q' ∧ ∀ ds xs p, H p = none → Rps K R xs ds → Q' (.lst ds) → Q (.ref p) (upd H p (.lst xs))

theorem big_ok {n : Nat} (h : n ≤ 1000000) : n ≤ sizeLine := Nat.le_trans h (by decide)
theorem big_lt {n : Nat} (h : n < 1000000) : n < sizeLine := Nat.lt_of_lt_of_le h (by decide)
theorem Sub.list {K : PySem.W.Frag} {R H : Hp} (e : Sub R H) {a : Addr} {xs : List V} (h : R a = some (.lst xs)) : SqL K H a xs := SqL.of (e _ _ h)

section
variable {X : Cx} {pins : List (Addr × Obj)} {s : Shared} {σ : L2.St} {H : Hp}
theorem MulOk.ok {i j : Int} (h : MulOk i j) : IntMulOk i j := by
  rcases h with h | h
  · exact CMul.ok h
  · exact CMulW.ok h
theorem opM : OpR X (binaryOp .Mult) (rI MulOk fun i j => .int (i * j)) := opI fun _ _ _ _ _ _ _ hc q => mul_int q hc.ok
theorem opD : OpR X (binaryOp .FloorDiv) (rI (fun _ j => DivOk j) fun i j => .int (i.fdiv j)) := opI fun i j _ _ _ _ _ hc q => floordiv_int hc.1 q (.inl (PyProof.noPylong_of_log2 hc.2))

/-- two ints in, a datum out -/
theorem ints2 {f : Value → Value → Sem Value} {C : Int → Int → Prop} {g : Int → Int → V} {gd : Int → Int → D} (h : OpR X f (rI C g)) (hg : ∀ (R : Hp) i j, Rp X.K R (g i j) (gd i j)) {o : O2}
    (hw : ∀ x y Q, w2 o x y Q → ∃ i j, x = .int i ∧ y = .int j ∧ C i j ∧ Q (gd i j)) : OpR X f (r2 X.K o) := opImp h fun x y H Q ⟨R, dx, dy, Q', hs, hx, hy, hq, k⟩ => by
  obtain ⟨i, j, rfl, rfl, hc, hq⟩ := hw _ _ _ hq
  cases hx
  cases hy
  exact ⟨i, j, rfl, rfl, hc, k _ _ R H (Grow.refl hs) (hg R i j) hq⟩
theorem ints20 {f : Value → Value → Sem Value} {g : Int → Int → V} {gd : Int → Int → D} (h : OpR X f (rI0 g)) (hg : ∀ (R : Hp) i j, Rp X.K R (g i j) (gd i j)) {o : O2}
    (hw : ∀ x y Q, w2 o x y Q → ∃ i j, x = .int i ∧ y = .int j ∧ Q (gd i j)) : OpR X f (r2 X.K o) := opImp h fun x y H Q ⟨R, dx, dy, Q', hs, hx, hy, hq, k⟩ => by
  obtain ⟨i, j, rfl, rfl, hz⟩ := hw _ _ _ hq
  cases hx
  cases hy
  exact ⟨i, j, rfl, rfl, k _ _ R H (Grow.refl hs) (hg R i j) hz⟩
theorem b_add : OpR X (binaryOp .Add) (r2 X.K .add) := ints20 op_add (fun _ _ _ => .int _) fun x y Q h => by
  cases x <;> cases y <;> first | exact ⟨_, _, rfl, rfl, h⟩ | exact h.elim
theorem b_sub : OpR X (binaryOp .Sub) (r2 X.K .sub) := ints20 op_sub (fun _ _ _ => .int _) fun x y Q h => by
  cases x <;> cases y <;> first | exact ⟨_, _, rfl, rfl, h⟩ | exact h.elim
theorem b_mul : OpR X (binaryOp .Mult) (r2 X.K .mul) := ints2 opM (fun _ _ _ => .int _) fun x y Q h => by
  cases x <;> cases y <;> first | exact ⟨_, _, rfl, rfl, h⟩ | exact h.elim
theorem b_fdiv : OpR X (binaryOp .FloorDiv) (r2 X.K .fdiv) := ints2 opD (fun _ _ _ => .int _) fun x y Q h => by
  cases x <;> cases y <;> first | exact ⟨_, _, rfl, rfl, h⟩ | exact h.elim
theorem b_mod : OpR X (binaryOp .Mod) (r2 X.K .mod) := ints2 op_modN (fun _ _ _ => .int _) fun x y Q h => by
  cases x <;> cases y <;> first | exact ⟨_, _, rfl, rfl, h⟩ | exact h.elim
theorem b_pow : OpR X (binaryOp .Pow) (r2 X.K .pow) := ints2 op_pow (fun _ _ _ => .int _) fun x y Q h => by
  cases x <;> cases y <;> first | exact ⟨_, _, rfl, rfl, h⟩ | exact h.elim
theorem b_lt : OpR X (compareOp .Lt) (r2 X.K .lt) := ints20 op_lt (fun _ _ _ => .bl _) fun x y Q h => by
  cases x <;> cases y <;> first | exact ⟨_, _, rfl, rfl, h⟩ | exact h.elim
theorem b_le : OpR X (compareOp .LtE) (r2 X.K .le) := ints20 op_le (fun _ _ _ => .bl _) fun x y Q h => by
  cases x <;> cases y <;> first | exact ⟨_, _, rfl, rfl, h⟩ | exact h.elim
theorem b_gt : OpR X (compareOp .Gt) (r2 X.K .gt) := ints20 op_gt (fun _ _ _ => .bl _) fun x y Q h => by
  cases x <;> cases y <;> first | exact ⟨_, _, rfl, rfl, h⟩ | exact h.elim
theorem b_ge : OpR X (compareOp .GtE) (r2 X.K .ge) := ints20 op_ge (fun _ _ _ => .bl _) fun x y Q h => by
  cases x <;> cases y <;> first | exact ⟨_, _, rfl, rfl, h⟩ | exact h.elim
theorem w2_cat {x y : D} {Q : D → Prop} (h : w2 .cat x y Q) : ∃ a b, x = .lst a ∧ y = .lst b ∧ a.length + b.length ≤ 1000000 ∧ Q (.lst (a ++ b)) := by
  cases x <;> cases y <;> first | exact ⟨_, _, rfl, rfl, h.1, h.2⟩ | exact h.elim
theorem b_catf : OpR X (binaryOp .Add) (r2f X.K .cat) := opImp op_cat fun x y H Q ⟨R, dx, dy, Q', hs, hx, hy, hq, k⟩ => by
  obtain ⟨a, b, rfl, rfl, hl, hq⟩ := w2_cat hq
  cases hx with
  | lst h1 q1 =>
    cases hy with
    | lst h2 q2 => exact ⟨_, _, _, _, rfl, rfl, hs _ _ h1, hs _ _ h2, big_ok (by rw [q1.length, q2.length]; exact hl), fun p hp => k _ _ p hp (q1.append q2) hq⟩
theorem w2_tcat {x y : D} {Q : D → Prop} (h : w2 .tcat x y Q) : ∃ a b, x = .tup a ∧ y = .tup b ∧ a.length + b.length ≤ 1000000 ∧ Q (.tup (a ++ b)) := by
  cases x <;> cases y <;> first | exact ⟨_, _, rfl, rfl, h.1, h.2⟩ | exact h.elim
theorem rps_nil {K : PySem.W.Frag} {R : Hp} {ds : List D} (h : Rps K R [] ds) : ds = [] := by
  cases h
  rfl
theorem b_tcat : OpR X (binaryOp .Add) (r2 X.K .tcat) := opImp op_catA fun x y H Q ⟨R, dx, dy, Q', hs, hx, hy, hq, k⟩ => by
  obtain ⟨a, b, rfl, rfl, hl, hq⟩ := w2_tcat hq
  cases hx with
  | @tup p xs _ h1 q1 =>
    cases hy with
    | @tup q ys _ h2 q2 =>
      refine ⟨p, q, xs, ys, rfl, rfl, sub_sqT hs h1, sub_sqT hs h2, big_ok (by rw [q1.length, q2.length]; exact hl), fun e => ?_, fun _ e => ?_, fun _ _ r hr => ?_⟩
      · subst e
        rw [rps_nil q1, List.nil_append] at hq
        exact k _ _ R H (Grow.refl hs) (.tup h2 q2) hq
      · subst e
        rw [rps_nil q2, List.append_nil] at hq
        exact k _ _ R H (Grow.refl hs) (.tup h1 q1) hq
      · have g : Grow R H (upd R r (.tup (xs ++ ys))) (upd H r (.tup (xs ++ ys))) := Grow.new hs hr
        exact k _ _ _ _ g (.tup (SqT.of upd_same) ((q1.append q2).mono g.rr)) hq
theorem w2_scat {x y : D} {Q : D → Prop} (h : w2 .scat x y Q) : ∃ a b, x = .str a ∧ y = .str b ∧ a.length + b.length ≤ 1000000 ∧ Q (.str (a ++ b)) := by
  cases x <;> cases y <;> first | exact ⟨_, _, rfl, rfl, h.1, h.2⟩ | exact h.elim
theorem b_scat : OpR X (binaryOp .Add) (r2 X.K .scat) := opImp op_add_str fun x y H Q ⟨R, dx, dy, Q', hs, hx, hy, hq, k⟩ => by
  obtain ⟨a, b, rfl, rfl, hl, hq⟩ := w2_scat hq
  cases hx
  cases hy
  exact ⟨_, _, rfl, rfl, big_ok hl, k _ _ R H (Grow.refl hs) (.str _) hq⟩

/-! ### comparisons of data -/
mutual
theorem dp_of {K : PySem.W.Frag} {R H : Hp} (e : Sub R H) : ∀ (n : Nat) (d : D) (v : V), cmpOk n d = true → Rp K R v d → Dp K H v (toPy d)
  | _, .non, _, _, .non => .non
  | _, .bl _, _, _, .bl _ => .bl _
  | _, .int _, _, _, .int _ => .int _
  | _, .str _, _, _, .str _ => .str _
  | 0, .tup _, _, h, _ => by simp [cmpOk] at h
  | 0, .lst _, _, h, _ => by simp [cmpOk] at h
  | 0, .scr _, _, h, _ => by simp [cmpOk] at h
  | 0, .brd _, _, h, _ => by simp [cmpOk] at h
  | n + 1, .tup ds, _, h, .tup h1 r => by
    rw [toPy]
    exact .tup (sub_sqT e h1) (dps_of e n ds _ (by simpa [cmpOk] using h) r)
  | n + 1, .lst ds, _, h, .lst h1 r => by
    rw [toPy]
    exact .lst (SqL.of (e _ _ h1)) (dps_of e n ds _ (by simpa [cmpOk] using h) r)
  | n + 1, .scr ns, _, _, .scr h1 => by
    rw [toPy]
    refine .lst (sub_sqL e h1) ?_
    induction ns with
    | nil => exact .nil
    | cons m ns ih => exact .cons (.int m) (by clear h1; exact dp_ints ns)
  | n + 1, .brd _, _, h, _ => by simp [cmpOk] at h
theorem dps_of {K : PySem.W.Frag} {R H : Hp} (e : Sub R H) : ∀ (n : Nat) (ds : List D) (vs : List V), cmpOks n ds = true → Rps K R vs ds → DpAll K H vs (toPys ds)
  | _, [], _, _, .nil => by
    rw [toPys]
    exact .nil
  | n, d :: ds, _, h, .cons h1 r => by
    rw [toPys]
    have h' : cmpOk n d = true ∧ cmpOks n ds = true := by simpa [cmpOks] using h
    exact .cons (dp_of e n d _ h'.1 h1) (dps_of e n ds _ h'.2 r)
theorem dp_ints {K : PySem.W.Frag} {H : Hp} : ∀ ns : List Int, DpAll K H (ns.map V.int) (ns.map .int)
  | [] => .nil
  | m :: ns => .cons (.int m) (dp_ints ns)
end
theorem depth_ints : ∀ ns : List Int, PyData.depthAll (ns.map .int) ≤ 1
  | [] => by simp [PyData.depthAll]
  | n :: ns => by
    have h := depth_ints ns
    simp only [List.map_cons, PyData.depthAll, PyData.depth]
    omega
theorem lay_ints : ∀ ns : List Int, PyData.canLayAll0 (ns.map .int) = true
  | [] => rfl
  | n :: ns => by
    simp only [List.map_cons, PyData.canLayAll0, PyData.canLay0, lay_ints ns, Bool.and_self]
mutual
theorem lay_of : ∀ (n : Nat) (d : D), cmpOk n d = true → (toPy d).canLay0 = true ∧ (toPy d).depth ≤ n + 2
  | _, .non, _ => by simp [toPy, PyData.canLay0, PyData.depth]
  | _, .bl _, _ => by simp [toPy, PyData.canLay0, PyData.depth]
  | _, .int _, _ => by simp [toPy, PyData.canLay0, PyData.depth]
  | _, .str s, h => by
    have h' : PyData.strOk s = true := by simpa [cmpOk] using h
    simp [toPy, PyData.canLay0, PyData.depth, h']
  | 0, .tup _, h => by simp [cmpOk] at h
  | 0, .lst _, h => by simp [cmpOk] at h
  | 0, .scr _, h => by simp [cmpOk] at h
  | 0, .brd _, h => by simp [cmpOk] at h
  | n + 1, .tup ds, h => by
    obtain ⟨h1, h2⟩ := lays_of n ds (by simpa [cmpOk] using h)
    simp only [toPy, PyData.canLay0, PyData.depth]
    exact ⟨h1, by omega⟩
  | n + 1, .lst ds, h => by
    obtain ⟨h1, h2⟩ := lays_of n ds (by simpa [cmpOk] using h)
    simp only [toPy, PyData.canLay0, PyData.depth]
    exact ⟨h1, by omega⟩
  | n + 1, .scr ns, _ => by
    have h1 := lay_ints ns
    have h2 := depth_ints ns
    simp only [toPy, PyData.canLay0, PyData.depth]
    exact ⟨h1, by omega⟩
  | n + 1, .brd _, h => by simp [cmpOk] at h
theorem lays_of : ∀ (n : Nat) (ds : List D), cmpOks n ds = true → PyData.canLayAll0 (toPys ds) = true ∧ PyData.depthAll (toPys ds) ≤ n + 2
  | _, [], _ => by simp [toPys, PyData.canLayAll0, PyData.depthAll]
  | n, d :: ds, h => by
    have h' : cmpOk n d = true ∧ cmpOks n ds = true := by simpa [cmpOks] using h
    obtain ⟨h1, h2⟩ := lay_of n d h'.1
    obtain ⟨h3, h4⟩ := lays_of n ds h'.2
    simp only [toPys, PyData.canLayAll0, PyData.depthAll, h1, h3, Bool.and_self, true_and]
    omega
end
theorem shaped_of {d : D} (h : cmpOk 20 d = true) : SeqAt.shaped (toPy d) = true := by
  obtain ⟨h1, h2⟩ := lay_of 20 d h
  unfold SeqAt.shaped
  rw [h1, Bool.true_and]
  exact decide_eq_true (by omega)
theorem b_eq (hu : X.A.units + 64 < cLine) : OpR X (compareOp .Eq) (r2 X.K .eq) := opImp (op_eqD hu) fun x y H Q ⟨R, dx, dy, Q', hs, hx, hy, hq, k⟩ => by
  obtain ⟨h1, h2, hq⟩ := (show cmpOk 20 dx = true ∧ cmpOk 20 dy = true ∧ Q' (.bl (eqD dx dy)) by cases dx <;> exact hq)
  exact ⟨toPy dx, toPy dy, dp_of hs 20 dx x h1 hx, dp_of hs 20 dy y h2 hy, shaped_of h1, shaped_of h2, k _ _ R H (Grow.refl hs) (.bl _) hq⟩
theorem b_ne (hu : X.A.units + 64 < cLine) : OpR X (compareOp .NotEq) (r2 X.K .ne) := opImp (op_neD hu) fun x y H Q ⟨R, dx, dy, Q', hs, hx, hy, hq, k⟩ => by
  obtain ⟨h1, h2, hq⟩ := (show cmpOk 20 dx = true ∧ cmpOk 20 dy = true ∧ Q' (.bl (!eqD dx dy)) by cases dx <;> exact hq)
  exact ⟨toPy dx, toPy dy, dp_of hs 20 dx x h1 hx, dp_of hs 20 dy y h2 hy, shaped_of h1, shaped_of h2, k _ _ R H (Grow.refl hs) (.bl _) hq⟩
theorem any_eqv (dx : D) : ∀ ds : List D, (toPys ds).any (fun z => PyData.eqv z (toPy dx)) = ds.any fun z => eqD z dx
  | [] => rfl
  | d :: ds => by
    show (PyData.eqv (toPy d) (toPy dx) || (toPys ds).any _) = (eqD d dx || ds.any _)
    rw [any_eqv dx ds]
    rfl
theorem b_inD (hu : X.A.units + 65 < cLine) : OpR X (compareOp .In) (r2 X.K .inD) := opImp (op_inD hu) fun x y H Q ⟨R, dx, dy, Q', hs, hx, hy, hq, k⟩ => by
  obtain ⟨ds, e⟩ : ∃ ds, dy = .lst ds := by cases dx <;> cases dy <;> first | exact ⟨_, rfl⟩ | exact False.elim hq
  subst e
  obtain ⟨h1, h2, hq⟩ := (show cmpOk 20 dx = true ∧ cmpOk 20 (.lst ds) = true ∧ Q' (.bl (ds.any fun z => eqD z dx)) by cases dx <;> exact hq)
  refine ⟨toPy dx, toPys ds, dp_of hs 20 dx x h1 hx, dp_of hs 20 (.lst ds) y h2 hy, shaped_of h1, shaped_of h2, ?_⟩
  rw [any_eqv]
  exact k _ _ R H (Grow.refl hs) (.bl _) hq
theorem b_ninD (hu : X.A.units + 65 < cLine) : OpR X (compareOp .NotIn) (r2 X.K .ninD) := opImp (op_notInD hu) fun x y H Q ⟨R, dx, dy, Q', hs, hx, hy, hq, k⟩ => by
  obtain ⟨ds, e⟩ : ∃ ds, dy = .lst ds := by cases dx <;> cases dy <;> first | exact ⟨_, rfl⟩ | exact False.elim hq
  subst e
  obtain ⟨h1, h2, hq⟩ := (show cmpOk 20 dx = true ∧ cmpOk 20 (.lst ds) = true ∧ Q' (.bl (!ds.any fun z => eqD z dx)) by cases dx <;> exact hq)
  refine ⟨toPy dx, toPys ds, dp_of hs 20 dx x h1 hx, dp_of hs 20 (.lst ds) y h2 hy, shaped_of h1, shaped_of h2, ?_⟩
  rw [any_eqv]
  exact k _ _ R H (Grow.refl hs) (.bl _) hq
theorem b_ninS : OpR X (compareOp .NotIn) (r2 X.K .ninS) := opImp op_notIn_sign fun x y H Q ⟨R, dx, dy, Q', hs, hx, hy, hq, k⟩ => by
  cases dx <;> cases dy <;> first | exact hq.elim | skip
  rename_i s z
  obtain ⟨c, rfl, hq⟩ := hq
  cases hx
  cases hy
  exact ⟨c, z, rfl, rfl, k _ _ R H (Grow.refl hs) (.bl _) hq⟩
/-! ### items, slices -/
theorem at_map {α β : Type} {f : α → β} {xs : List α} {i : Int} {x : α} (h : atI xs i = some x) : atI (xs.map f) i = some (f x) := by
  unfold atI at h ⊢
  rw [List.length_map]
  cases q : ixN xs.length i with
  | none =>
    rw [q] at h
    cases h
  | some j =>
    rw [q] at h
    show (xs.map f)[j]? = some (f x)
    have h' : xs[j]? = some x := h
    rw [List.getElem?_map, h']
    rfl
theorem b_ix : IxR X (r2 X.K .ix) := by
  intro value slice pins s σ H x y v u Q I rx ry ⟨R, dx, dy, Q', hs, hx, hy, hq, k⟩ hsub
  refine ix_seq value slice pins s σ H x y v u Q I rx ry ?_ hsub
  cases dx <;> cases dy <;> first | exact hq.elim | skip
  · cases hx
    cases hy
    obtain ⟨c, h1, h2, hq⟩ := hq
    exact .inr (.inr ⟨_, _, c, rfl, rfl, big_ok h1, h2, k _ _ R H (Grow.refl hs) (.str _) hq⟩)
  · cases hx with
    | tup h1 q1 =>
      cases hy
      obtain ⟨d, h2, hq⟩ := hq
      obtain ⟨w, h3, r3⟩ := q1.at h2
      exact .inr (.inl ⟨_, _, _, w, rfl, rfl, sub_sqT hs h1, h3, k _ _ R H (Grow.refl hs) r3 hq⟩)
  · cases hx with
    | lst h1 q1 =>
      cases hy
      obtain ⟨d, h2, hq⟩ := hq
      obtain ⟨w, h3, r3⟩ := q1.at h2
      exact .inl ⟨_, _, _, w, rfl, rfl, Sub.list hs h1, h3, k _ _ R H (Grow.refl hs) r3 hq⟩
  · cases hx with
    | scr h1 =>
      cases hy
      obtain ⟨d, h2, hq⟩ := hq
      exact .inl ⟨_, _, _, .int d, rfl, rfl, sub_sqL hs h1, at_map h2, k _ _ R H (Grow.refl hs) (.int d) hq⟩

theorem cutL_map {α β : Type} (f : α → β) (xs : List α) (lo hi : Option Int) : cutL (xs.map f) lo hi = (cutL xs lo hi).map f := by
  unfold cutL
  rw [List.length_map, ← List.map_drop, ← List.map_take]
def rSl (K : PySem.W.Frag) : V → Option Int → Option Int → Hp → VK → Prop := fun x lo hi H Q => ∃ (R : Hp) (dx : D) (Q' : D → Prop), Sub R H ∧ Rp K R x dx ∧ wsl dx lo hi Q' ∧ ∀ z v R' H', Grow R H R' H' → Rp K R' v z → Q' z → Q v H'
theorem b_sl : L2.SlR X (rSl X.K) := by
  intro pins s σ H x v vl vu lo hi sl Q I rx hs pl pu ⟨R, dx, Q', hr, hx, hq, k⟩
  cases dx <;> first | exact hq.elim | skip
  · cases hx
    obtain ⟨h1, hq⟩ := hq
    refine sl_str pins s σ H _ v vl vu lo hi sl Q I rx hs pl pu ⟨_, rfl, big_ok h1, ?_⟩
    exact k _ _ R H (Grow.refl hr) (.str _) hq
  · rename_i ds
    cases hx with
    | @tup p xs ds' h1 q1 =>
      refine sl_tupA pins s σ H _ v vl vu lo hi sl Q I rx hs pl pu ⟨_, _, rfl, sub_sqT hr h1, fun e => ?_, fun _ r hr' => ?_⟩
      · have e2 : cutL ds lo hi = ds := by
          unfold cutL
          rw [← q1.length, e.1, e.2, List.drop_zero, Nat.sub_zero, q1.length, List.take_length]
        have hq' : Q' (.tup (cutL ds lo hi)) := hq
        rw [e2] at hq'
        exact k _ _ R H (Grow.refl hr) (.tup h1 q1) hq'
      · have g : Grow R H (upd R r (.tup (cutV xs lo hi))) (upd H r (.tup (cutV xs lo hi))) := Grow.new hr hr'
        exact k _ _ _ _ g (.tup (SqT.of upd_same) ((q1.cut lo hi).mono g.rr)) hq
  · cases hx with
    | @lst p xs ds h1 q1 =>
      refine sl_list pins s σ H _ v vl vu lo hi sl Q I rx hs pl pu ⟨_, _, rfl, Sub.list hr h1, fun r hr' => ?_⟩
      have g : Grow R H (upd R r (.lst (cutV xs lo hi))) (upd H r (.lst (cutV xs lo hi))) := Grow.new hr hr'
      exact k _ _ _ _ g (.lst upd_same ((q1.cut lo hi).mono g.rr)) hq
  · rename_i ns
    cases hx with
    | @scr p ns' h1 =>
      refine sl_list pins s σ H _ v vl vu lo hi sl Q I rx hs pl pu ⟨_, _, rfl, sub_sqL hr h1, fun r hr' => ?_⟩
      have g : Grow R H (upd R r (.lst (cutV (ns.map V.int) lo hi))) (upd H r (.lst (cutV (ns.map V.int) lo hi))) := Grow.new hr hr'
      refine k _ _ _ _ g (.lst upd_same ?_) hq
      show Rps X.K _ (cutL (ns.map V.int) lo hi) _
      rw [cutL_map]
      exact Rps.of_ints _

/-! ### calls of built-ins -/
/-- a call of one argument, of two, as an operation on data -/
def c1 (K : PySem.W.Frag) (o : O1) : List V → Hp → VK → Prop := fun xs H Q => ∃ x, xs = [x] ∧ r1 K o x H Q
def c2 (K : PySem.W.Frag) (o : O2) : List V → Hp → VK → Prop := fun xs H Q => ∃ x y, xs = [x, y] ∧ r2 K o x y H Q
theorem b_abs : CallR X (.builtin "abs") (c1 X.K .abs) := callImp call_abs fun xs H Q ⟨x, e, R, dx, Q', hs, hx, hq, k⟩ => by
  subst e
  cases dx <;> first | exact hq.elim | skip
  rename_i i
  cases hx
  refine ⟨i, rfl, k _ _ R H (Grow.refl hs) ?_ hq⟩
  have e : (if i < 0 then -i else i) = (i.natAbs : Int) := by split <;> omega
  rw [e]
  exact .int _
theorem b_len : CallR X (.builtin "len") (c1 X.K .len) := callImp call_len fun xs H Q ⟨x, e, R, dx, Q', hs, hx, hq, k⟩ => by
  subst e
  cases dx <;> first | exact hq.elim | skip
  · cases hx
    obtain ⟨h1, hq⟩ := hq
    exact ⟨_, _, rfl, ⟨big_ok h1, rfl⟩, k _ _ R H (Grow.refl hs) (.int _) hq⟩
  · cases hx with
    | @tup p xs ds h1 q1 => exact ⟨_, _, rfl, .inr ⟨_, sub_sqT hs h1, q1.length.symm⟩, k _ _ R H (Grow.refl hs) (.int _) hq⟩
  · cases hx with
    | @lst p xs ds h1 q1 => exact ⟨_, _, rfl, .inl ⟨_, Sub.list hs h1, q1.length.symm⟩, k _ _ R H (Grow.refl hs) (.int _) hq⟩
  · cases hx with
    | @scr p ns h1 => exact ⟨_, _, rfl, .inl ⟨_, sub_sqL hs h1, by rw [List.length_map]⟩, k _ _ R H (Grow.refl hs) (.int _) hq⟩
theorem b_tup : CallR X (.type "tuple") (c1 X.K .tupO) := callImp call_tuple_of fun xs H Q ⟨x, e, R, dx, Q', hs, hx, hq, k⟩ => by
  subst e
  cases dx <;> first | exact hq.elim | skip
  · cases hx with
    | @tup p xs ds h1 q1 => exact ⟨_, _, rfl, .inr ⟨sub_sqT hs h1, k _ _ R H (Grow.refl hs) (.tup h1 q1) hq⟩⟩
  · cases hx with
    | @lst p xs ds h1 q1 =>
      refine ⟨_, _, rfl, .inl ⟨Sub.list hs h1, fun l hl => ?_⟩⟩
      have g : Grow R H (upd R l (.tup xs)) (upd H l (.tup xs)) := Grow.new hs hl
      exact k _ _ _ _ g (.tup (SqT.of upd_same) (q1.mono g.rr)) hq
def c1f (K : PySem.W.Frag) (o : O1) : List V → Hp → VK → Prop := fun xs H Q => ∃ x, xs = [x] ∧ r1f K o x H Q
theorem b_lstf : CallR X (.type "list") (c1f X.K .lstO) := callImp call_list_of fun xs H Q ⟨x, e, R, dx, Q', hs, hx, hq, k⟩ => by
  subst e
  cases dx <;> first | exact hq.elim | skip
  · cases hx with
    | @tup p xs ds h1 q1 => exact ⟨_, _, rfl, .inr (sub_sqT hs h1), fun l hl => k _ _ l hl q1 hq⟩
  · cases hx with
    | @lst p xs ds h1 q1 => exact ⟨_, _, rfl, .inl (Sub.list hs h1), fun l hl => k _ _ l hl q1 hq⟩
theorem callOr {f : Value} {r r' : List V → Hp → VK → Prop} (h : CallR X f r) (h' : CallR X f r') : CallR X f (fun xs H Q => r xs H Q ∨ r' xs H Q) := fun pins s σ H xs us Q I rx q => by
  rcases q with q | q
  · exact h pins s σ H xs us Q I rx q
  · exact h' pins s σ H xs us Q I rx q
theorem b_int : CallR X (.type "int") (c1 X.K .intO) := callImp (callOr call_int1 call_int_str) fun xs H Q ⟨x, e, R, dx, Q', hs, hx, hq, k⟩ => by
  subst e
  cases dx <;> first | exact hq.elim | skip
  · cases hx
    exact .inl (.inr ⟨_, rfl, k _ _ R H (Grow.refl hs) (.int _) hq⟩)
  · cases hx
    exact .inl (.inl ⟨_, rfl, k _ _ R H (Grow.refl hs) (.int _) hq⟩)
  · cases hx
    obtain ⟨n, h1, h2, hq⟩ := hq
    exact .inr ⟨_, n, rfl, h1, h2, k _ _ R H (Grow.refl hs) (.int _) hq⟩
theorem b_str : CallR X (.type "str") (c1 X.K .strO) := callImp call_str_int fun xs H Q ⟨x, e, R, dx, Q', hs, hx, hq, k⟩ => by
  subst e
  cases dx <;> first | exact hq.elim | skip
  cases hx
  exact ⟨_, rfl, hq.1, k _ _ R H (Grow.refl hs) (.str _) hq.2⟩
theorem b_sum (hc : X.calm = true) : CallR X (.builtin "sum") (c1 X.K .sum) := callImp (cr_sum hc) fun xs H Q ⟨x, e, R, dx, Q', hs, hx, hq, k⟩ => by
  subst e
  cases dx <;> first | exact hq.elim | skip
  obtain ⟨ns, rfl, hq⟩ := hq
  cases hx with
  | @lst p xs ds h1 q1 =>
    rw [q1.ints] at h1
    exact ⟨p, ns, rfl, Sub.list hs h1, k _ _ R H (Grow.refl hs) (.int _) hq⟩
theorem b_max (hc : X.calm = true) : CallR X (.builtin "max") (c2 X.K .max) := callImp (call_max2 hc) fun xs H Q ⟨x, y, e, R, dx, dy, Q', hs, hx, hy, hq, k⟩ => by
  subst e
  cases dx <;> cases dy <;> first | exact hq.elim | skip
  cases hx
  cases hy
  exact ⟨_, _, rfl, k _ _ R H (Grow.refl hs) (.int _) hq⟩
theorem b_min (hc : X.calm = true) : CallR X (.builtin "min") (c2 X.K .min) := callImp (call_min2 hc) fun xs H Q ⟨x, y, e, R, dx, dy, Q', hs, hx, hy, hq, k⟩ => by
  subst e
  cases dx <;> cases dy <;> first | exact hq.elim | skip
  cases hx
  cases hy
  exact ⟨_, _, rfl, k _ _ R H (Grow.refl hs) (.int _) hq⟩
/-- a datum's type -/
def tyD : D → String
  | .non => "NoneType"
  | .bl _ => "bool"
  | .int _ => "int"
  | .str _ => "str"
  | .tup _ => "tuple"
  | .lst _ => "list"
  | .scr _ => "list"
  | .brd _ => "Board"
theorem ty_of {K : PySem.W.Frag} {R H : Hp} (e : Sub R H) {x : V} {d : D} (h : Rp K R x d) (hb : isBrdD d = false) : TyX K H x (.type (tyD d)) := by
  cases h with
  | non => exact .base .non
  | bl b => exact .base (.bl b)
  | int i => exact .base (.int i)
  | str s => exact .base (.str s)
  | tup h1 _ =>
    rcases sub_sqT e h1 with (h | ⟨o, h⟩) | ⟨o, its, n, h, hc, _⟩
    · exact .base (.tup h)
    · exact .fTuple h
    · exact .kTuple h hc
  | lst h1 _ => exact .base (.lst (e _ _ h1))
  | scr h1 =>
    rcases sub_sqL e h1 with (h | ⟨o, h⟩) | ⟨o, its, n, h, hc, _⟩
    · exact .base (.lst h)
    · exact .base (.frz h)
    · exact .kList h hc
  | brd p => cases hb
/-- isinstance(x, T) -/
def rIs (K : PySem.W.Frag) (o : O1) (T : String) : List V → Hp → VK → Prop := fun xs H Q => ∃ x, xs = [x, .ty T] ∧ r1 K o x H Q
theorem b_is {o : O1} {T : String} {p : D → Bool} (hw : ∀ d Q, w1 o d Q → isBrdD d = false ∧ Q (.bl (p d))) (hk : ∀ d, isBrdD d = false → kitB (tyD d) T = some (p d)) : CallR X (.builtin "isinstance") (rIs X.K o T) :=
  callImp call_isi fun xs H Q ⟨x, e, R, dx, Q', hs, hx, hq, k⟩ => by
    subst e
    obtain ⟨h1, hq⟩ := hw _ _ hq
    exact ⟨x, .ty T, .type (tyD dx), .type T, p dx, rfl, .ty T, ty_of hs hx h1, kit_ty (hk dx h1), k _ _ R H (Grow.refl hs) (.bl _) hq⟩
theorem b_isInt : CallR X (.builtin "isinstance") (rIs X.K .isInt "int") := b_is (p := isIntD) (fun d Q h => by cases d <;> exact h) fun d h => by
  cases d <;> first | exact Bool.noConfusion h | (show kitB _ _ = some _; simp only [tyD, isIntD]; decide +kernel)
theorem b_isBool : CallR X (.builtin "isinstance") (rIs X.K .isBool "bool") := b_is (p := isBoolD) (fun d Q h => by cases d <;> exact h) fun d h => by
  cases d <;> first | exact Bool.noConfusion h | (show kitB _ _ = some _; simp only [tyD, isBoolD]; decide +kernel)
theorem b_isTup : CallR X (.builtin "isinstance") (rIs X.K .isTup "tuple") := b_is (p := isTupD) (fun d Q h => by cases d <;> exact h) fun d h => by
  cases d <;> first | exact Bool.noConfusion h | (show kitB _ _ = some _; simp only [tyD, isTupD]; decide +kernel)
theorem b_isLst : CallR X (.builtin "isinstance") (rIs X.K .isLst "list") := b_is (p := isLstD) (fun d Q h => by cases d <;> exact h) fun d h => by
  cases d <;> first | exact Bool.noConfusion h | (show kitB _ _ = some _; simp only [tyD, isLstD]; decide +kernel)
theorem b_isStr : CallR X (.builtin "isinstance") (rIs X.K .isStr "str") := b_is (p := isStrD) (fun d Q h => by cases d <;> exact h) fun d h => by
  cases d <;> first | exact Bool.noConfusion h | (show kitB _ _ = some _; simp only [tyD, isStrD]; decide +kernel)
theorem r1_isN {K : PySem.W.Frag} {x : V} {H : Hp} {Q : VK} (h : r1 K .isN x H Q) : Q (.bl (decide (x = .non))) H := by
  obtain ⟨R, dx, Q', hs, hx, hq, k⟩ := h
  have e : decide (x = .non) = isNonD dx := by cases hx <;> rfl
  rw [e]
  exact k _ _ R H (Grow.refl hs) (.bl _) (by cases dx <;> exact hq)
theorem r1_notN {K : PySem.W.Frag} {x : V} {H : Hp} {Q : VK} (h : r1 K .notN x H Q) : Q (.bl (!decide (x = .non))) H := by
  obtain ⟨R, dx, Q', hs, hx, hq, k⟩ := h
  have e : decide (x = .non) = isNonD dx := by cases hx <;> rfl
  rw [e]
  exact k _ _ R H (Grow.refl hs) (.bl _) (by cases dx <;> exact hq)
theorem b_neg : UnR X (unaryOp .USub) (r1 X.K .neg) := fun pins s σ H x v Q I rx ⟨R, dx, Q', hs, hx, hq, k⟩ => by
  refine un_neg pins s σ H x v Q I rx ?_
  cases dx <;> first | exact hq.elim | skip
  cases hx
  exact ⟨_, rfl, k _ _ R H (Grow.refl hs) (.int _) hq⟩
end
end LK

/-! zip of a tuple and a list. -/
namespace LK
open PySem PySem.Spec PyProof.Rows L2

def ItzM (K : PySem.W.Frag) (a b : Addr) : It :=
  ⟨fun i H => ∃ (xs ys : List V) (x y : V), SqT K H a xs ∧ SqL K H b ys ∧ xs[i]? = some x ∧ ys[i]? = some y,
    fun i H v H' => ∃ T x y, v = .ref T ∧ H T = none ∧ H' = upd H T (.tup [x, y]) ∧ (∀ xs, SqT K H a xs → xs[i]? = some x) ∧ ∀ ys, SqL K H b ys → ys[i]? = some y,
    fun i H => ∃ xs ys : List V, SqT K H a xs ∧ SqL K H b ys ∧ (xs.length ≤ i ∨ ys.length ≤ i) ∧ i ≤ xs.length ∧ i ≤ ys.length⟩
theorem sepM {z TI TO i1 i2 a b : Addr} (D : ZipApart z TI TO i1 i2 a b) (hTa : TI ≠ a) (h2 : i2 ≠ a) (h1 : i1 ≠ b) : ZipSep2 z TI TO i1 i2 [i1, a] [i2, b] where
  TIz := D.TIz
  TOz := D.TOz
  TITO := D.TITO
  TIi1 := D.TIi1
  mem1 := by simp
  zf1 := by simp only [List.mem_cons, List.not_mem_nil, or_false, not_or]; exact ⟨D.i1z.symm, D.l1z.symm⟩
  Tf1 := by simp only [List.mem_cons, List.not_mem_nil, or_false, not_or]; exact ⟨D.TOi1, D.l1TO.symm⟩
  TIi2 := D.TIi2
  mem2 := by simp
  zf2 := by simp only [List.mem_cons, List.not_mem_nil, or_false, not_or]; exact ⟨D.i2z.symm, D.l2z.symm⟩
  Tf2 := by simp only [List.mem_cons, List.not_mem_nil, or_false, not_or]; exact ⟨D.TOi2, D.l2TO.symm⟩
  sep1_2 := by simp only [List.mem_cons, List.not_mem_nil, or_false, not_or]; exact ⟨D.i12, h1⟩
  sep2_1 := by simp only [List.mem_cons, List.not_mem_nil, or_false, not_or]; exact ⟨D.i12.symm, h2⟩
theorem turn_zipM {P : Program} {w : World} {K : PySem.W.Frag} {elts : List Expr} {kk : Nat} {tpos : Pos} {a b z TI TO i1 i2 : Addr} (D : ZipApart z TI TO i1 i2 a b) (hTa : TI ≠ a) :
    Turn P w K (.Tuple elts kk tpos) (ItzM K a b) [z, TI, TO, i1, i2] z (fun i h => IsZip h z TI TO .none ∧ IsPair h TI (.ref i1) (.ref i2) ∧ (∃ x y, IsPair h TO x y) ∧ h.IsTupleIter i1 a i ∧ h.IsListIter i2 b i) where
  mem := by simp
  obj := fun i h st c hc => by
    obtain ⟨hz, hTI, ⟨x, y, hTO⟩, ⟨o1, e1, _, d1⟩, ⟨o2, e2, _, d2⟩⟩ := st
    have e' : c = z ∨ c = TI ∨ c = TO ∨ c = i1 ∨ c = i2 := by simpa using hc
    rcases e' with q | q | q | q | q
    · rw [q]; exact ⟨_, hz, fun v q => nomatch q⟩
    · rw [q]; exact ⟨_, hTI, fun v q => nomatch q⟩
    · rw [q]; exact ⟨_, hTO, fun v q => nomatch q⟩
    · rw [q]; exact ⟨o1, e1, fun v q => by rw [d1] at q; cases q⟩
    · rw [q]; exact ⟨o2, e2, fun v q => by rw [d2] at q; cases q⟩
  keep := fun i h h' st k => by
    obtain ⟨hz, hTI, ⟨x, y, hTO⟩, h1, h2⟩ := st
    exact ⟨k z (by simp) _ hz, k TI (by simp) _ hTI, ⟨x, y, k TO (by simp) _ hTO⟩, h1.at fun o q => k i1 (by simp) o q, h2.at fun o q => k i2 (by simp) o q⟩
  item := by
    intro X hP hw hK hc i pins s σ H E I hf st hg
    subst hP hw hK
    obtain ⟨hz, hTI, ⟨x0, y0, hTO⟩, h1, h2⟩ := st
    obtain ⟨xs, ys, x, y, hqx, hqy, hx, hy⟩ := hg
    obtain ⟨its, rv, p, _⟩ := I.tuple hqx
    obtain ⟨its2, rv2, p2, _⟩ := I.list hqy
    obtain ⟨u, hu, ru⟩ := rv.get hx
    obtain ⟨u2, hu2, ru2⟩ := rv2.get hy
    have hzl : z < s.heap.objs.size := Heap.lt_size hz
    have l1 := (List.getElem?_eq_some_iff.mp hu).1
    have l2 := (List.getElem?_eq_some_iff.mp hu2).1
    have hh : X.A.in1.handled = none := I.ok.hd hc
    refine wpAny_pyNext_zipD2_item (a1 := x0) (a2 := y0) (n1 := its.toArray.size) (n2 := its2.toArray.size) (i := i) (sepM D hTa D.l1i2.symm D.l2i1.symm) (Draws.tuple hh i1 a D.l1i1 its.toArray) (Draws.list hh i2 b D.l2i2 its2.toArray) hz hTI hTO ⟨h1, show s.heap.IsTuple a its.toArray from p⟩ ⟨h2, p2.isList⟩ (by simpa using l1) (by simpa using l2) fun x1 x2 h' tk q1 q2 z' TO' h1' h2' hT hsz hk => ?_
    have ex1 : x1 = u := by
      have q1' : its.toArray[i]? = some x1 := q1
      rw [List.getElem?_toArray, hu] at q1'
      exact (Option.some.inj q1').symm
    have ex2 : x2 = u2 := by
      have q2' : its2.toArray[i]? = some x2 := q2
      rw [List.getElem?_toArray, hu2] at q2'
      exact (Option.some.inj q2').symm
    subst ex1 ex2
    refine ⟨_, rfl, wpAny_letOwnedTupleGo_zip (s := { s with heap := h', toks := tk }) z' fun h'' z'' sb => ?_⟩
    have hT2 : h''.get? s.heap.objs.size = some { cls := .type "tuple", data := .seq #[x1, x2] } := (sb.2 _ (Nat.ne_of_gt hzl)).trans hT
    have new : ObjOk X.prog X.w (upd H s.heap.objs.size (.tup [x, y])) h'' s.heap.objs.size (.tup [x, y]) :=
      ⟨by show 2 ≤ sizeLine; decide, [x1, x2], .cons ru (.cons ru2 .nil), ⟨_, hT2, rfl, _, rfl⟩⟩
    have I1 : Inv X pins σ (upd H s.heap.objs.size (.tup [x, y])) { s with heap := h'', toks := tk } :=
      I.turnedNew (t' := tk) (ch := [z, TI, TO, i1, i2]) (fun c o hb q => (sb.2 c (fun q' => hb (by simp [q']))).trans (hk c o (fun q' => hb (by simp [q'])) (fun q' => hb (by simp [q'])) (fun q' => hb (by simp [q'])) (fun q' => hb (by simp [q'])) q)) hf (Nat.le_refl _) new
    refine ⟨.ref s.heap.objs.size, _, I1, rfl, ⟨_, x, y, rfl, I.hok.fresh (Nat.le_refl _), rfl, fun l hl => by rw [I.tuple_inj hl hqx]; exact hx, fun l hl => by rw [I.list_inj hl hqy]; exact hy⟩, ⟨z'', ?_, ⟨x1, x2, ?_⟩, ?_, ?_⟩, fun c hcm => ?_⟩
    · exact (sb.2 _ D.TIz).trans (hk _ _ D.TIz D.TITO D.TIi1 D.TIi2 hTI)
    · exact (sb.2 _ D.TOz).trans TO'
    · exact h1'.1.at fun o q => (sb.2 _ D.i1z).trans q
    · exact h2'.1.at fun o q => (sb.2 _ D.i2z).trans q
    · have hlt : c < s.heap.objs.size := by
        have e' : c = z ∨ c = TI ∨ c = TO ∨ c = i1 ∨ c = i2 := by simpa using hcm
        rcases e' with q | q | q | q | q
        · rw [q]; exact hzl
        · rw [q]; exact Heap.lt_size hTI
        · rw [q]; exact Heap.lt_size hTO
        · rw [q]; obtain ⟨_, e1, _⟩ := h1; exact Heap.lt_size e1
        · rw [q]; obtain ⟨_, e2, _⟩ := h2; exact Heap.lt_size e2
      rw [upd_ne (Nat.ne_of_lt hlt)]
      exact (hf c hcm).1
  done := by
    intro X hP hw hK hc i pins s σ H E I hf st hg
    subst hP hw hK
    obtain ⟨hz, hTI, ⟨x0, y0, hTO⟩, h1, h2⟩ := st
    obtain ⟨xs, ys, hqx, hqy, hend, hi1, hi2⟩ := hg
    obtain ⟨its, rv, p, _⟩ := I.tuple hqx
    obtain ⟨its2, rv2, p2, _⟩ := I.list hqy
    have l1 := rv.length
    have l2 := rv2.length
    have hh : X.A.in1.handled = none := I.ok.hd hc
    have z1 : its.toArray.size = xs.length := by rw [List.size_toArray]; exact l1.symm
    have z2 : its2.toArray.size = ys.length := by rw [List.size_toArray]; exact l2.symm
    refine wpAny_pyNext_zipD2_end (a1 := x0) (a2 := y0) (i := i) (sepM D hTa D.l1i2.symm D.l2i1.symm) (Draws.tuple hh i1 a D.l1i1 its.toArray) (Draws.list hh i2 b D.l2i2 its2.toArray) hz hTI hTO ⟨h1, show s.heap.IsTuple a its.toArray from p⟩ ⟨h2, p2.isList⟩ (by rw [z1]; exact hi1) (by rw [z2]; exact hi2) (by rw [z1, z2]; omega) fun h' tk hk => ?_
    exact ⟨rfl, I.turnedL (t' := tk) (ch := [z, TI, TO, i1, i2]) (fun c o hb q =>
      hk c o (fun q' => hb (by simp [q'])) (fun q' => hb (by simp [q'])) (fun q' => hb (by simp [q'])) (fun q' => hb (by simp [q'])) q) hf⟩
  self := fun A i s Q E st h => wpAny_pyIter_zip st.1 h

def iZipM (K : PySem.W.Frag) (ta : TA) : TI := fun σ H R => ta σ H fun vs H1 => ∃ a b xs ys, vs = [.ref a, .ref b] ∧ ((SqL K H1 a xs ∧ SqL K H1 b ys ∧ R (Itz K a b) H1) ∨ (SqT K H1 a xs ∧ SqT K H1 b ys ∧ R (RZ.ItzT K a b) H1) ∨ (SqT K H1 a xs ∧ SqL K H1 b ys ∧ R (ItzM K a b) H1))
theorem pi_zipM {X : Cx} {e e2 : Expr} {ta : TA} {p pos tpos : Pos} {elts : List Expr} {kk : Nat} (hg : Gl X "zip") (hm : X.mg "zip" = none) (ha : PA X [e, e2] ta)
    (hs : starEach [e, e2] X.env = (false, eval e X.env) :: starEach [e2] X.env) (hpl : (backTo pos (starEach [e2] X.env)).any (·.1) = false) :
    PI X (.Tuple elts kk tpos) (.Call (.Name "zip" p) [e, e2] [] pos) (iZipM X.K ta) := by
  refine ⟨fun pins s σ H R I h => ?_⟩
  refine Call_ (ld_blt I hg hm PyProof.Rows.boot_zip (PyProof.Rows.callWith_type1 (thn (ha.run pos pins s σ H _ I h) fun us s1 ⟨vs, H1, I1, r1, q1⟩ => ?_) hs hpl))
  obtain ⟨a, b, xs, ys, ex, q1⟩ := q1
  subst ex
  cases r1 with
  | cons r rr =>
    cases rr with
    | cons r' rr =>
      cases rr
      cases r
      cases r'
      have fresh5 : ∀ c, c ∈ [s1.heap.objs.size + 4, s1.heap.objs.size + 2, s1.heap.objs.size + 3, s1.heap.objs.size, s1.heap.objs.size + 1] → FpOk X pins H1 c := fun c hcm => by
        have e' : c = s1.heap.objs.size + 4 ∨ c = s1.heap.objs.size + 2 ∨ c = s1.heap.objs.size + 3 ∨ c = s1.heap.objs.size ∨ c = s1.heap.objs.size + 1 := by simpa using hcm
        have hle : s1.heap.objs.size ≤ c := by
          rcases e' with z | z | z | z | z
          · rw [z]; exact Nat.le_add_right _ _
          · rw [z]; exact Nat.le_add_right _ _
          · rw [z]; exact Nat.le_add_right _ _
          · rw [z]; exact Nat.le_refl _
          · rw [z]; exact Nat.le_add_right _ _
        exact I1.fpOk hle (I1.hok.fresh hle)
      rcases q1 with ⟨hqx, hqy, q⟩ | ⟨hqx, hqy, q⟩ | ⟨hqx, hqy, q⟩
      · obtain ⟨its, rv, p1, _⟩ := I1.list hqx
        obtain ⟨its2, rv2, p2, _⟩ := I1.list hqy
        refine call_zip_2 p1.isList p2.isList fun h' hz hTI hTO h1 h2 hsz hk => wpAny_pyIter_zip hz ?_
        have I2 : Inv X pins σ H1 { s1 with heap := h' } := I1.kept (t' := s1.toks) hk
        exact ⟨s1.heap.objs.size + 4, [s1.heap.objs.size + 4, s1.heap.objs.size + 2, s1.heap.objs.size + 3, s1.heap.objs.size, s1.heap.objs.size + 1], _, _, H1, rfl, I2, turn_zip (PySem.W.ktu_apart s1.heap.objs.size a b p1.lt p2.lt), ⟨hz, hTI, ⟨_, _, hTO⟩, h1, h2⟩, fresh5, q⟩
      · obtain ⟨its, rv, p1, _⟩ := I1.tuple hqx
        obtain ⟨its2, rv2, p2, _⟩ := I1.tuple hqy
        obtain ⟨o1, ho1, _⟩ := id p1
        obtain ⟨o2, ho2, _⟩ := id p2
        refine RZ.call_zipT (show s1.heap.IsTuple a its.toArray from p1) (show s1.heap.IsTuple b its2.toArray from p2) fun h' hz hTI hTO h1 h2 hsz hk => wpAny_pyIter_zip hz ?_
        have I2 : Inv X pins σ H1 { s1 with heap := h' } := I1.kept (t' := s1.toks) hk
        exact ⟨s1.heap.objs.size + 4, [s1.heap.objs.size + 4, s1.heap.objs.size + 2, s1.heap.objs.size + 3, s1.heap.objs.size, s1.heap.objs.size + 1], _, _, H1, rfl, I2, RZ.turn_zipT (PySem.W.ktu_apart s1.heap.objs.size a b (Heap.lt_size ho1) (Heap.lt_size ho2)), ⟨hz, hTI, ⟨_, _, hTO⟩, h1, h2⟩, fresh5, q⟩
      · obtain ⟨its, rv, p1, _⟩ := I1.tuple hqx
        obtain ⟨its2, rv2, p2, _⟩ := I1.list hqy
        obtain ⟨o1, ho1, _⟩ := id p1
        have la : a < s1.heap.objs.size := Heap.lt_size ho1
        refine zip_begins2 (begins_tuple a its.toArray) (begins_list b its2.toArray) (show s1.heap.IsTuple a its.toArray from p1) p2.isList fun h' hz hTI hTO h1 h2 hsz hk => wpAny_pyIter_zip hz ?_
        have I2 : Inv X pins σ H1 { s1 with heap := h' } := I1.kept (t' := s1.toks) hk
        exact ⟨s1.heap.objs.size + 4, [s1.heap.objs.size + 4, s1.heap.objs.size + 2, s1.heap.objs.size + 3, s1.heap.objs.size, s1.heap.objs.size + 1], _, _, H1, rfl, I2, turn_zipM (PySem.W.ktu_apart s1.heap.objs.size a b la p2.lt) (Nat.ne_of_gt (Nat.lt_of_lt_of_le la (Nat.le_add_right _ _))), ⟨hz, hTI, ⟨_, _, hTO⟩, ⟨_, h1, rfl, rfl⟩, ⟨_, h2, rfl, rfl⟩⟩, fresh5, q⟩
end LK

/-! The language's texts say what they say: expressions. -/
namespace LK
open PySem PySem.Spec PyProof.Rows L2

/-- a step; q: it is known to leave the object -/
structure StQ (bc : Addr) (q : Bool) (b b' : Ob) (R H R' H' : Hp) : Prop where
  st : Stp bc b b' R H R' H'
  qb : q = true → b' = b
  qs : q = true → Sub H H'
theorem StQ.refl {bc : Addr} {q : Bool} {b : Ob} {R H : Hp} (h : Sub R H) : StQ bc q b b R H R H := ⟨Stp.refl h, fun _ => rfl, fun _ => Sub.refl _⟩
theorem StQ.trans {bc : Addr} {p q : Bool} {b b1 b2 : Ob} {R H R1 H1 R2 H2 : Hp} (x : StQ bc p b b1 R H R1 H1) (y : StQ bc q b1 b2 R1 H1 R2 H2) : StQ bc (p && q) b b2 R H R2 H2 :=
  ⟨x.st.trans y.st, fun h => by
    rw [Bool.and_eq_true] at h
    rw [y.qb h.2, x.qb h.1], fun h => by
    rw [Bool.and_eq_true] at h
    exact (x.qs h.1).trans (y.qs h.2)⟩
theorem StQ.weak {bc : Addr} {p q : Bool} {b b1 : Ob} {R H R1 H1 : Hp} (x : StQ bc p b b1 R H R1 H1) (h : q = true → p = true) : StQ bc q b b1 R H R1 H1 := ⟨x.st, fun e => x.qb (h e), fun e => x.qs (h e)⟩
theorem StQ.off {bc : Addr} {b b1 : Ob} {R H R1 H1 : Hp} (x : Stp bc b b1 R H R1 H1) {q : Bool} (h : q = false) : StQ bc q b b1 R H R1 H1 := ⟨x, (fun e => by rw [h] at e; cases e), (fun e => by rw [h] at e; cases e)⟩
/-- how many -/
def nEs : Exs → Nat
  | .nil => 0
  | .cons _ es => nEs es + 1
section
variable (K : PySem.W.Frag) (S : Sy) (en : En) (W : WX)
/-- what is wanted of an error -/
def EOk (δ : Env) (σ : L2.St) (E' : Nat → Prop) : Prop := ∀ c R' H', S.M.hc c = true → ER K S.bc en δ none σ R' H' → E' c → W (.ref (S.ca c)) none σ H'
/-- an expression's reading -/
def GE (e : Ex) : TE := fun σ H Q => ∃ δ b R Q' E', ER K S.bc en δ b σ R H ∧ wE S.G e δ b Q' E' ∧
  (∀ d b' v R' H', ER K S.bc en δ b' σ R' H' → StQ S.bc (quiet e) b b' R H R' H' → Rp K R' v d → Q' d b' → Q v H') ∧ EOk K S en W δ σ E'
/-- .. whose answer is a new list of nobody's -/
def GF (e : Ex) : TE := fun σ H Q => ∃ δ b R Q' E', ER K S.bc en δ b σ R H ∧ wE S.G e δ b Q' E' ∧
  (∀ ds b' p xs R' H', ER K S.bc en δ b' σ R' H' → Stp S.bc b b' R H R' H' → H p = none → R' p = none → ¬ Bo S.bc b' H' p → H' p = some (.lst xs) → Rps K R' xs ds → Q' (.lst ds) b' → Q (.ref p) H') ∧ EOk K S en W δ σ E'
def GEs (es : Exs) : TA := fun σ H Q => ∃ δ b R Q' E', ER K S.bc en δ b σ R H ∧ wEs S.G es δ b Q' E' ∧
  (∀ ds b' vs R' H', ER K S.bc en δ b' σ R' H' → Stp S.bc b b' R H R' H' → Rps K R' vs ds → ds.length = nEs es → Q' ds b' → Q vs H') ∧ EOk K S en W δ σ E'
def GO (o : Ox) : TO := fun σ H Q => ∃ δ b R Q' E', ER K S.bc en δ b σ R H ∧ wO S.G o δ b Q' E' ∧
  (∀ i b' R' H', ER K S.bc en δ b' σ R' H' → StQ S.bc (quietO o) b b' R H R' H' → Q' i b' → Q i H') ∧ EOk K S en W δ σ E'
/-- as a test -/
def GT (e : Ex) : TT := fun σ H Q => ∃ δ b R, ∃ (Q' : Bool → Ob → Prop) (E' : Nat → Prop), ER K S.bc en δ b σ R H ∧ wE S.G e δ b (fun d b' => wtest d fun t => Q' t b') E' ∧
  (∀ t b' R' H', ER K S.bc en δ b' σ R' H' → Stp S.bc b b' R H R' H' → Q' t b' → Q t H') ∧ EOk K S en W δ σ E'
end

theorem Stp.keepR {bc : Addr} {b b' : Ob} {R H R' H' : Hp} {p : Addr} {o : HO} (x : Stp bc b b' R H R' H') (n : H p = none) (nr : R' p = none) : Stp bc b b' R H (upd R' p o) H' :=
  ⟨x.rr.trans (Sub.new nr), fun q u e => by
    rw [upd_ne (ne_of_none e n)]
    exact x.old q u e, x.dom, x.out, x.bo⟩

section
variable {S : Sy} {en : En} {N : List Str} {sc : Scope} {X : Cx} {W : WX} {lv : Nat} {x y : Expr} {e a c : Ex}

/-- a new list, kept -/
theorem ge_to_gf {K : PySem.W.Frag} {σ : L2.St} {H : Hp} {Q : VK} (hq : quiet e = false) (h : GE K S en W e σ H Q) : GF K S en W e σ H Q := by
  obtain ⟨δ, b, R, Q', E', I, w, k, ke⟩ := h
  exact ⟨δ, b, R, Q', E', I, w, fun ds b' p xs R' H' J st n nr nb hp r q => by
    have f : Fre S.bc en δ b' σ R' H' p := I.freG n st nr nb
    exact k (.lst ds) b' (.ref p) _ H' (J.keep f hp) (StQ.off (st.keepR n nr) hq) (.lst upd_same (r.mono (Sub.new nr))) q, ke⟩
theorem ge_of_gf (hq : quiet e = false) (h : PE X x (GF X.K S en W e)) : PE X x (GE X.K S en W e) := peImp h fun σ H Q q => ge_to_gf hq q

/-! ### names -/
theorem CK.gl (C : CK S N sc X W lv) {s : Str} (h : isGl sc s = true) : Gl X s := by
  have e := C.sc
  unfold isGl at h
  unfold Gl
  show X.env.scope.names.lookup s = some .globalImplicit
  rw [e]
  split at h
  · assumption
  · cases h
theorem CK.vis (C : CK S N sc X W lv) {s : Str} (h : isVis sc s = true) : Vis X.env.scope s := by
  rw [C.sc]
  unfold isVis at h
  split at h
  · exact .inl (by assumption)
  · exact .inr (.inl (by assumption))
  · exact .inr (.inr (by assumption))
  · cases h
theorem CK.loc (C : CK S N sc X W lv) {s : Str} (h : isLoc sc s = true) : Loc X.env.scope s := by
  rw [C.sc]
  unfold isLoc at h
  split at h
  · exact .inl (by assumption)
  · exact .inr (by assumption)
  · cases h
theorem okN {s : Str} (h : okName s = true) : (s == ("__debug__" : Str)) = false ∧ (s == ("__classdict__" : Str)) = false ∧ s ≠ "__name__" := by
  unfold okName at h
  simp only [Bool.and_eq_true, Bool.not_eq_true', beq_eq_false_iff_ne] at h
  exact ⟨by simpa using h.1.1, by simpa using h.1.2, h.2⟩
theorem blt_none (C : CK S N sc X W lv) {s : Str} (h : s ∈ bltNames) : X.mg s = none := C.fs.bl s h
/-- a name of a slot -/
theorem pe_slot (C : CK S N sc X W lv) {i : Nat} (h : chkV N sc i x = true) : PE X x (tVar i) := by
  unfold chkV at h
  split at h
  · rename_i s pos
    simp only [Bool.and_eq_true, decide_eq_true_eq] at h
    obtain ⟨⟨h1, h2⟩, h3⟩ := h
    obtain ⟨d1, d2, _⟩ := okN h3
    exact pe_var (by rw [C.n]; exact h1) (C.vis h2) d1 d2
  · cases h
theorem gE_var (C : CK S N sc X W lv) {i : Nat} (h : chkV N sc i x = true) : PE X x (GE X.K S en W (.var i)) := peImp (pe_slot C h) fun σ H Q ⟨δ, b, R, Q', E', I, w, k, ke⟩ => by
  have w' : (match gt δ i with | .vl d => Q' d b | _ => False) := w
  cases hg : gt δ i with
  | vl d =>
    rw [hg] at w'
    obtain ⟨v, h1, h2⟩ := I.val hg
    exact ⟨v, h1, k d b v R H I (StQ.refl I.sub) h2 w'⟩
  | no => rw [hg] at w'; exact w'.elim
  | ow _ => rw [hg] at w'; exact w'.elim
theorem gE_cst {d : D} (h : chkK d x = true) : PE X x (GE X.K S en W (.cst d)) := by
  have fin : ∀ {v : V} {d : D}, (∀ R : Hp, Rp X.K R v d) → ∀ σ H Q, GE X.K S en W (.cst d) σ H Q → tC v σ H Q := fun hr σ H Q ⟨δ, b, R, Q', E', I, w, k, ke⟩ =>
    k _ b _ R H I (StQ.refl I.sub) (hr R) w
  unfold chkK at h
  split at h
  · split at h
    · exact peImp pe_non (fin fun _ => .non)
    · rename_i b c
      have e : b = c := by simpa using h
      subst e
      exact peImp pe_bl (fin fun _ => .bl _)
    · rename_i i j
      have e : i = j := by simpa using h
      subst e
      exact peImp pe_int (fin fun _ => .int _)
    · rename_i s t
      have e : s = t := by simpa using h
      subst e
      exact peImp pe_str (fin fun _ => .str _)
    · cases h
  · cases h
theorem gln (C : CK S N sc X W lv) {s : Str} (h : glName sc s y = true) : ∃ pos, y = .Name s pos ∧ Gl X s ∧ (s == ("__debug__" : Str)) = false ∧ s ≠ "__name__" := by
  unfold glName at h
  split at h
  · rename_i t pos
    simp only [Bool.and_eq_true] at h
    obtain ⟨⟨h1, h2⟩, h3⟩ := h
    have e : t = s := by simpa using h1
    subst e
    obtain ⟨d1, _, d3⟩ := okN h3
    exact ⟨pos, rfl, C.gl h2, d1, d3⟩
  · cases h
theorem gE_glb (C : CK S N sc X W lv) {g : Nat} (hg : S.M.hg g = true) (h : glName sc (S.M.gl g) x = true) : PE X x (GE X.K S en W (.glb g)) := by
  obtain ⟨pos, rfl, h1, h2, h3⟩ := gln C h
  obtain ⟨u, v, m, r, rp⟩ := C.fs.gl g hg
  exact peImp (pe_glob h1 m r h2) fun σ H Q ⟨δ, b, R, Q', E', I, w, k, ke⟩ =>
    k _ b v R H I (StQ.refl I.sub) (rp.mono (fun _ _ z => by cases z)) w

/-! ### operations -/
/-- from a step that only makes new things -/
theorem stp_growS {δ : Env} {b b1 : Ob} {σ : L2.St} {R H R1 H1 R' H' : Hp} (J : ER X.K S.bc en δ b1 σ R1 H1) (st : Stp S.bc b b1 R H R1 H1) (g : Grow R1 H1 R' H') : ER X.K S.bc en δ b1 σ R' H' ∧ Stp S.bc b b1 R H R' H' :=
  ⟨J.grow g, st.trans (J.stpG g)⟩
theorem stp_grow {q : Bool} {δ : Env} {b b1 : Ob} {σ : L2.St} {R H R1 H1 R' H' : Hp} (J : ER X.K S.bc en δ b1 σ R1 H1) (st : StQ S.bc q b b1 R H R1 H1) (g : Grow R1 H1 R' H') : ER X.K S.bc en δ b1 σ R' H' ∧ StQ S.bc q b b1 R H R' H' :=
  ⟨J.grow g, st.st.trans (J.stpG g), st.qb, fun h => (st.qs h).trans g.hh⟩
theorem gE_op1 {o : O1} (hp : PE X x (tUn (r1 X.K o) (GE X.K S en W a))) : PE X x (GE X.K S en W (.op1 o a)) :=
  peImp hp fun σ H Q ⟨δ, b, R, Q', E', I, w, k, ke⟩ => ⟨δ, b, R, fun d b1 => w1 o d fun z => Q' z b1, E', I, w, fun d b1 v R1 H1 J st r q =>
    ⟨R1, d, _, J.sub, r, q, fun z v' R' H' g r' q' => by
      obtain ⟨J2, st2⟩ := stp_grow J st g
      exact k z b1 v' R' H' J2 (st2.weak fun h => (by simp only [quiet, Bool.and_eq_true] at h; exact h.2)) r' q'⟩, ke⟩
theorem gE_op2 {o : O2} (hp : PE X x (tOp (r2 X.K o) (GE X.K S en W a) (GE X.K S en W c))) : PE X x (GE X.K S en W (.op2 o a c)) :=
  peImp hp fun σ H Q ⟨δ, b, R, Q', E', I, w, k, ke⟩ => ⟨δ, b, R, fun d b1 => wE S.G c δ b1 (fun d2 b2 => w2 o d d2 fun z => Q' z b2) E', E', I, w, fun d b1 v R1 H1 J st r q =>
    ⟨δ, b1, R1, fun d2 b2 => w2 o d d2 fun z => Q' z b2, E', J, q, fun d2 b2 v2 R2 H2 J2 st2 r2 q2 =>
      ⟨R2, d, d2, _, J2.sub, r.mono st2.st.rr, r2, q2, fun z v' R' H' g r' q' => by
        obtain ⟨J3, st3⟩ := stp_grow J2 (st.trans st2) g
        exact k z b2 v' R' H' J3 (st3.weak fun h => (by simp only [quiet, Bool.and_eq_true] at h ⊢; exact ⟨h.1.2, h.2⟩)) r' q'⟩, ke⟩, ke⟩
/-- .. a new list of nobody's -/
theorem new_lst {δ : Env} {b b1 : Ob} {σ : L2.St} {R H R1 H1 : Hp} {p : Addr} {o : HO} (I : ER X.K S.bc en δ b σ R H) (J : ER X.K S.bc en δ b1 σ R1 H1) (st : Stp S.bc b b1 R H R1 H1) (n : H1 p = none) :
    ER X.K S.bc en δ b1 σ R1 (upd H1 p o) ∧ Stp S.bc b b1 R H R1 (upd H1 p o) ∧ H p = none ∧ R1 p = none ∧ ¬ Bo S.bc b1 (upd H1 p o) p := by
  have g : Grow R1 H1 R1 (upd H1 p o) := Grow.loose J.sub n
  obtain ⟨J2, st2⟩ := stp_growS J st g
  refine ⟨J2, st2, ?_, J.sub.fre n, fun z => ?_⟩
  · cases e : H p with
    | none => rfl
    | some u =>
      obtain ⟨u', h⟩ := st.dom p u e
      rw [n] at h
      cases h
  · rcases (J.stpG g).bo p z with h | h
    · obtain ⟨_, _, u, hu⟩ := J.bo_no h
      rw [n] at hu
      cases hu
    · obtain ⟨pp, B, aa, e, hp, hq⟩ := z
      obtain ⟨a', r, _⟩ := J.bd pp B e
      have e2 := bdFs_inj (Option.some.inj ((g.hh _ _ r.ins).symm.trans hp))
      subst e2
      obtain ⟨u, hu⟩ := r.tr p hq
      rw [n] at hu
      cases hu
theorem GE.mono {K : PySem.W.Frag} {e : Ex} {σ : L2.St} {H : Hp} {Q Q2 : VK} (h : GE K S en W e σ H Q) (m : ∀ v H, Q v H → Q2 v H) : GE K S en W e σ H Q2 := by
  obtain ⟨δ, b, R, Q', E', I, w, k, ke⟩ := h
  exact ⟨δ, b, R, Q', E', I, w, fun d b' v R' H' J st r q => m _ _ (k d b' v R' H' J st r q), ke⟩
theorem gF_op1 {o : O1} (hp : PE X x (tUn (r1f X.K o) (GE X.K S en W a))) : PE X x (GF X.K S en W (.op1 o a)) :=
  peImp hp fun σ H Q ⟨δ, b, R, Q', E', I, w, k, ke⟩ => ⟨δ, b, R, fun d b1 => w1 o d fun z => Q' z b1, E', I, w, fun d b1 v R1 H1 J st r q =>
    ⟨R1, d, _, J.sub, r, q, fun ds xs p n r' q' => by
      obtain ⟨J2, st2, n0, nr, nb⟩ := new_lst (o := .lst xs) I J st.st n
      exact k ds b1 p xs R1 _ J2 st2 n0 nr nb upd_same r' q'⟩, ke⟩
theorem gF_op2 {o : O2} (hp : PE X x (tOp (r2f X.K o) (GE X.K S en W a) (GE X.K S en W c))) : PE X x (GF X.K S en W (.op2 o a c)) :=
  peImp hp fun σ H Q ⟨δ, b, R, Q', E', I, w, k, ke⟩ => ⟨δ, b, R, fun d b1 => wE S.G c δ b1 (fun d2 b2 => w2 o d d2 fun z => Q' z b2) E', E', I, w, fun d b1 v R1 H1 J st r q =>
    ⟨δ, b1, R1, fun d2 b2 => w2 o d d2 fun z => Q' z b2, E', J, q, fun d2 b2 v2 R2 H2 J2 st2 r2 q2 =>
      ⟨R2, d, d2, _, J2.sub, r.mono st2.st.rr, r2, q2, fun ds xs p n r' q' => by
        obtain ⟨J3, st3, n0, nr, nb⟩ := new_lst (o := .lst xs) I J2 (st.st.trans st2.st) n
        exact k ds b2 p xs R2 _ J3 st3 n0 nr nb upd_same r' q'⟩, ke⟩, ke⟩

/-! ### displays, argument lists -/
theorem gEs_nil : PA X [] (GEs X.K S en W .nil) := paImp pa_nil fun σ H Q ⟨δ, b, R, Q', E', I, w, k, ke⟩ => k [] b [] R H I (Stp.refl I.sub) .nil rfl w
theorem gEs_cons {es : Exs} {ys : List Expr} (ha : PE X y (GE X.K S en W a)) (hr : PA X ys (GEs X.K S en W es)) (hs : starEach (y :: ys) X.env = (false, eval y X.env) :: starEach ys X.env) : PA X (y :: ys) (GEs X.K S en W (.cons a es)) :=
  paImp (pa_cons ha hr hs) fun σ H Q ⟨δ, b, R, Q', E', I, w, k, ke⟩ => ⟨δ, b, R, fun d b1 => wEs S.G es δ b1 (fun ds b2 => Q' (d :: ds) b2) E', E', I, w, fun d b1 v R1 H1 J st r q =>
    ⟨δ, b1, R1, fun ds b2 => Q' (d :: ds) b2, E', J, q, fun ds b2 vs R2 H2 J2 st2 r2 hl q2 => k (d :: ds) b2 (v :: vs) R2 H2 J2 (st.st.trans st2) (.cons (r.mono st2.rr) r2) (by rw [List.length_cons, hl]; rfl) q2, ke⟩, ke⟩
theorem gE_tup {es : Exs} {ys : List Expr} {k0 : Nat} {pos : Pos} (h : PA X ys (GEs X.K S en W es)) (hn : nEs es ≤ 1000) : PE X (.Tuple ys k0 pos) (GE X.K S en W (.tup es)) :=
  peImp (pe_tup h) fun σ H Q ⟨δ, b, R, Q', E', I, w, k, ke⟩ => ⟨δ, b, R, fun ds b1 => Q' (.tup ds) b1, E', I, w, fun ds b1 vs R1 H1 J st r hl q =>
    ⟨by rw [r.length, hl]; exact Nat.le_trans hn (by decide), fun p n => by
      obtain ⟨J2, st2⟩ := stp_growS J st (Grow.new (o := .tup vs) J.sub n)
      exact k (.tup ds) b1 (.ref p) _ _ J2 (StQ.off st2 rfl) (.tup (SqT.of upd_same) (r.mono (Sub.new (J.sub.fre n)))) q⟩, ke⟩
theorem gF_lst {es : Exs} {ys : List Expr} {pos : Pos} (h : PA X ys (GEs X.K S en W es)) (hn : nEs es ≤ 1000) : PE X (.List ys pos) (GF X.K S en W (.lst es)) :=
  peImp (pe_lst h) fun σ H Q ⟨δ, b, R, Q', E', I, w, k, ke⟩ => ⟨δ, b, R, fun ds b1 => Q' (.lst ds) b1, E', I, w, fun ds b1 vs R1 H1 J st r hl q =>
    ⟨by rw [r.length, hl]; exact Nat.le_trans hn (by decide), fun p n => by
      obtain ⟨J2, st2, n0, nr, nb⟩ := new_lst (o := .lst vs) I J st n
      exact k ds b1 p vs R1 _ J2 st2 n0 nr nb upd_same r q⟩, ke⟩
/-! ### slices -/
theorem gO_no : PO X none (GO X.K S en W .no) := ⟨fun pins s σ H Q I0 ⟨δ, b, R, Q', E', I, w, k, ke⟩ => po_none.run pins s σ H Q I0 (k none b R H I (StQ.refl I.sub) w)⟩
theorem gO_so (ha : PE X y (GE X.K S en W a)) : PO X (some y) (GO X.K S en W (.so a)) := ⟨fun pins s σ H Q I0 ⟨δ, b, R, Q', E', I, w, k, ke⟩ =>
  (po_some ha).run pins s σ H Q I0 ⟨δ, b, R, fun x b1 => match x with
    | .int i => Q' (some i) b1
    | _ => False, E', I, w, fun d b1 v R1 H1 J st r q => by
      cases d <;> first | exact q.elim | skip
      cases r
      exact ⟨_, rfl, k _ b1 R1 H1 J st q⟩, ke⟩⟩
theorem gE_sl {lo hi : Ox} {l h : Option Expr} {p2 pos : Pos} (ha : PE X y (GE X.K S en W a)) (hl : PO X l (GO X.K S en W lo)) (hh : PO X h (GO X.K S en W hi)) : PE X (.Subscript y (.Slice l h none p2) pos) (GE X.K S en W (.sl a lo hi)) :=
  peImp (pe_slice b_sl ha hl hh) fun σ H Q ⟨δ, b, R, Q', E', I, w, k, ke⟩ => ⟨δ, b, R, fun x b1 => wO S.G lo δ b1 (fun l b2 => wO S.G hi δ b2 (fun h b3 => wsl x l h fun z => Q' z b3) E') E', E', I, w, fun d b1 v R1 H1 J st r q =>
    ⟨δ, b1, R1, fun l b2 => wO S.G hi δ b2 (fun h b3 => wsl d l h fun z => Q' z b3) E', E', J, q, fun l b2 R2 H2 J2 st2 q2 =>
      ⟨δ, b2, R2, fun h b3 => wsl d l h fun z => Q' z b3, E', J2, q2, fun h b3 R3 H3 J3 st3 q3 =>
        ⟨R3, d, _, J3.sub, (r.mono st2.st.rr).mono st3.st.rr, q3, fun z v' R' H' g r' q' => by
          obtain ⟨J4, st4⟩ := stp_growS J3 ((st.st.trans st2.st).trans st3.st) g
          exact k z b3 v' R' H' J4 (StQ.off st4 rfl) r' q'⟩, ke⟩, ke⟩, ke⟩
/-! ### and, or, not -/
theorem wtest_inv {d : D} {Q : Bool → Prop} (h : wtest d Q) : ∃ t, d = .bl t ∧ Q t := by
  cases d <;> first | exact ⟨_, rfl, h⟩ | exact h.elim
theorem gE_and {r : List Expr} {pos p2 : Pos} {z : Expr} (ha : PE X y (GE X.K S en W a)) (hc : PE X (.BoolOp .And (z :: r) pos) (GE X.K S en W c)) : PE X (.BoolOp .And (y :: z :: r) pos) (GE X.K S en W (.and a c)) :=
  peImp (pe_and ha hc) fun σ H Q ⟨δ, b, R, Q', E', I, w, k, ke⟩ => ⟨δ, b, R, fun x b1 => wtest x fun t => if t then wE S.G c δ b1 Q' E' else Q' (.bl false) b1, E', I, w, fun d b1 v R1 H1 J st rp q => by
    obtain ⟨t, rfl, qq⟩ := wtest_inv q
    cases rp
    refine ⟨t, rfl, ?_⟩
    cases t with
    | true => exact iteT ⟨δ, b1, R1, Q', E', J, by simpa using qq, fun d2 b2 v2 R2 H2 J2 st2 r2 q2 => k d2 b2 v2 R2 H2 J2 ((st.trans st2).weak fun h => by simpa only [quiet] using h) r2 q2, ke⟩
    | false => exact iteF (k _ b1 _ R1 H1 J (st.weak fun h => (by simp only [quiet, Bool.and_eq_true] at h; exact h.1)) (.bl false) (by simpa using qq)), ke⟩
theorem gE_or {r : List Expr} {pos p2 : Pos} {z : Expr} (ha : PE X y (GE X.K S en W a)) (hc : PE X (.BoolOp .Or (z :: r) pos) (GE X.K S en W c)) : PE X (.BoolOp .Or (y :: z :: r) pos) (GE X.K S en W (.or a c)) :=
  peImp (pe_or ha hc) fun σ H Q ⟨δ, b, R, Q', E', I, w, k, ke⟩ => ⟨δ, b, R, fun x b1 => wtest x fun t => if t then Q' (.bl true) b1 else wE S.G c δ b1 Q' E', E', I, w, fun d b1 v R1 H1 J st rp q => by
    obtain ⟨t, rfl, qq⟩ := wtest_inv q
    cases rp
    refine ⟨t, rfl, ?_⟩
    cases t with
    | false => exact iteF ⟨δ, b1, R1, Q', E', J, by simpa using qq, fun d2 b2 v2 R2 H2 J2 st2 r2 q2 => k d2 b2 v2 R2 H2 J2 ((st.trans st2).weak fun h => by simpa only [quiet] using h) r2 q2, ke⟩
    | true => exact iteT (k _ b1 _ R1 H1 J (st.weak fun h => (by simp only [quiet, Bool.and_eq_true] at h; exact h.1)) (.bl true) (by simpa using qq)), ke⟩
theorem gE_one {op : BoolOp} {pos : Pos} (ha : PE X y (GE X.K S en W a)) : PE X (.BoolOp op [y] pos) (GE X.K S en W (.one a)) := peImp (pe_one ha) fun σ H Q ⟨δ, b, R, Q', E', I, w, k, ke⟩ => ⟨δ, b, R, Q', E', I, w, k, ke⟩
theorem gE_not {pos : Pos} (ha : PE X y (GE X.K S en W a)) : PE X (.UnaryOp .Not y pos) (GE X.K S en W (.not a)) :=
  peImp (pe_not ha) fun σ H Q ⟨δ, b, R, Q', E', I, w, k, ke⟩ => ⟨δ, b, R, fun x b1 => wtest x fun t => Q' (.bl (!t)) b1, E', I, w, fun d b1 v R1 H1 J st rp q => by
    obtain ⟨t, rfl, q⟩ := wtest_inv q
    cases rp
    exact ⟨t, rfl, k _ b1 _ R1 H1 J st (.bl _) q⟩, ke⟩
/-- an expression as a test -/
theorem gT_val (ha : PE X y (GE X.K S en W a)) (he : ∀ whole, isTrue y X.env whole = (do let v ← whole; standAt y.pos; holding [v] (truthy v))) : PT X y (GT X.K S en W a) :=
  ptImp (pt_val ha he) fun σ H Q ⟨δ, b, R, Q', E', I, w, k, ke⟩ => ⟨δ, b, R, _, E', I, w, fun d b1 v R1 H1 J st rp q => by
    obtain ⟨t, rfl, q⟩ := wtest_inv q
    cases rp
    exact ⟨t, rfl, k t b1 R1 H1 J st.st q⟩, ke⟩
theorem gT_cmp {o : O2} {op : CmpOp} {z : Expr} {pos : Pos} (ho : OpR X (compareOp op) (r2 X.K o)) (ha : PE X y (GE X.K S en W a)) (hc : PE X z (GE X.K S en W c)) (hm : behindInMarks op z = false) : PT X (.Compare y [op] [z] pos) (GT X.K S en W (.op2 o a c)) :=
  ptImp (pt_cmpR ho ha hc hm) fun σ H Q ⟨δ, b, R, Q', E', I, w, k, ke⟩ => ⟨δ, b, R, _, E', I, w, fun d b1 v R1 H1 J st r q =>
    ⟨δ, b1, R1, _, E', J, q, fun d2 b2 v2 R2 H2 J2 st2 r2 q2 =>
      ⟨R2, d, d2, _, J2.sub, r.mono st2.st.rr, r2, q2, fun z v' R' H' g r' q' => by
        obtain ⟨J3, st3⟩ := stp_growS J2 (st.st.trans st2.st) g
        obtain ⟨t, rfl, q'⟩ := wtest_inv q'
        cases r'
        exact ⟨t, rfl, k t b2 R' H' J3 st3 q'⟩⟩, ke⟩, ke⟩
theorem gT_and {r : List Expr} {pos : Pos} {z : Expr} (ha : PT X y (GT X.K S en W a)) (hc : PW X (.BoolOp .And (z :: r) pos) (GT X.K S en W c)) : PW X (.BoolOp .And (y :: z :: r) pos) (GT X.K S en W (.and a c)) := by
  refine ⟨fun wh pins s σ H Q I0 ⟨δ, b, R, Q', E', I, w, k, ke⟩ => (pw_and ha hc).run wh pins s σ H Q I0 ?_⟩
  refine ⟨δ, b, R, fun t b1 => if t then wE S.G c δ b1 (fun d b' => wtest d fun t => Q' t b') E' else Q' false b1, E', I, ?_, fun t b1 R1 H1 J st q => ?_, ke⟩
  · have w' : wE S.G a δ b (fun x b1 => wtest x fun t => if t then wE S.G c δ b1 (fun d b' => wtest d fun t => Q' t b') E' else wtest (.bl false) fun t => Q' t b1) E' := w
    exact w'
  · cases t with
    | true => exact iteT ⟨δ, b1, R1, Q', E', J, by simpa using q, fun t b2 R2 H2 J2 st2 q2 => k t b2 R2 H2 J2 (st.trans st2) q2, ke⟩
    | false => exact iteF (k false b1 R1 H1 J st (by simpa using q))
theorem gT_or {r : List Expr} {pos : Pos} {z : Expr} (ha : PT X y (GT X.K S en W a)) (hc : PW X (.BoolOp .Or (z :: r) pos) (GT X.K S en W c)) : PW X (.BoolOp .Or (y :: z :: r) pos) (GT X.K S en W (.or a c)) := by
  refine ⟨fun wh pins s σ H Q I0 ⟨δ, b, R, Q', E', I, w, k, ke⟩ => (pw_or ha hc).run wh pins s σ H Q I0 ?_⟩
  refine ⟨δ, b, R, fun t b1 => if t then Q' true b1 else wE S.G c δ b1 (fun d b' => wtest d fun t => Q' t b') E', E', I, ?_, fun t b1 R1 H1 J st q => ?_, ke⟩
  · have w' : wE S.G a δ b (fun x b1 => wtest x fun t => if t then wtest (.bl true) fun t => Q' t b1 else wE S.G c δ b1 (fun d b' => wtest d fun t => Q' t b') E') E' := w
    exact w'
  · cases t with
    | false => exact iteF ⟨δ, b1, R1, Q', E', J, by simpa using q, fun t b2 R2 H2 J2 st2 q2 => k t b2 R2 H2 J2 (st.trans st2) q2, ke⟩
    | true => exact iteT (k true b1 R1 H1 J st (by simpa using q))
theorem gT_one1 {pos : Pos} (ha : PT X y (GT X.K S en W a)) : PW X (.BoolOp .And [y] pos) (GT X.K S en W (.one a)) :=
  ⟨fun wh pins s σ H Q I0 ⟨δ, b, R, Q', E', I, w, k, ke⟩ => (pw_and1 ha).run wh pins s σ H Q I0 ⟨δ, b, R, Q', E', I, w, k, ke⟩⟩
theorem gT_one2 {pos : Pos} (ha : PT X y (GT X.K S en W a)) : PW X (.BoolOp .Or [y] pos) (GT X.K S en W (.one a)) :=
  ⟨fun wh pins s σ H Q I0 ⟨δ, b, R, Q', E', I, w, k, ke⟩ => (pw_or1 ha).run wh pins s σ H Q I0 ⟨δ, b, R, Q', E', I, w, k, ke⟩⟩
theorem gT_not {pos : Pos} (ha : PT X y (GT X.K S en W a)) : PT X (.UnaryOp .Not y pos) (GT X.K S en W (.not a)) :=
  ptImp (pt_not ha) fun σ H Q ⟨δ, b, R, Q', E', I, w, k, ke⟩ => ⟨δ, b, R, fun t b1 => Q' (!t) b1, E', I, w, fun t b1 R1 H1 J st q => k (!t) b1 R1 H1 J st q, ke⟩
end
end LK

/-! Calls, own lists, the object's fields, sources, comprehensions. -/
namespace LK
open PySem PySem.Spec PyProof.Rows L2

section
variable {K : PySem.W.Frag} {bc : Addr} {en : En} {δ : Env} {b b' : Ob} {σ : L2.St} {R H R' H' : Hp}
theorem Rps.slots : ∀ {vs : List V} {ds : List D}, Rps K R vs ds → ∀ i v, (vs.map some)[i]? = some v → SlR K R H (gt (ds.map .vl) i) v
  | _, _, .nil, i, v, e => by simp at e
  | _, _, .cons h _, 0, v, e => by
    simp at e
    subst e
    exact .vl h
  | _, _, .cons _ r, i + 1, v, e => Rps.slots r i v (by simpa using e)
theorem gt_vls : ∀ {ds : List D} {i : Nat} {es : List D}, gt (ds.map .vl) i ≠ .ow es
  | [], _, _, h => nomatch h
  | _ :: _, 0, _, h => nomatch h
  | _ :: ds, i + 1, es, h => gt_vls (ds := ds) (i := i) h
/-- a call's entry -/
theorem ER.entry (I : ER K bc en δ b σ R H) {vs : List V} {ds : List D} (r : Rps K R vs ds) : ER K bc ⟨H, R, b⟩ (ds.map .vl) b (vs.map some) R H where
  len := by rw [List.length_map, List.length_map, r.length]
  sub := I.sub
  stp := Stp.refl I.sub
  sl := fun i v e => r.slots i v e
  own := fun i p ⟨es, h, _⟩ => absurd h gt_vls
  dis := fun i j p ⟨es, h, _⟩ => absurd h gt_vls
  bd := fun p B e => by
    obtain ⟨a, r, _⟩ := I.bd p B e
    exact ⟨a, r, fun i q ⟨es, h, _⟩ => absurd h gt_vls⟩
theorem ER.back (I : ER K bc en δ b σ R H) {δ' : Env} {σ' : L2.St} (J : ER K bc ⟨H, R, b⟩ δ' b' σ' R' H') : ER K bc en δ b' σ R' H' ∧ Stp bc b b' R H R' H' :=
  ⟨I.go J.stp J.sub fun p B e => by
    obtain ⟨a, r, _⟩ := J.bd p B e
    exact ⟨a, r⟩, J.stp⟩
/-- a list that is tracked, of nobody's, is turned -/
theorem ER.loose (I : ER K bc en δ b σ R H) {q : Addr} {o : HO} (f : Fre bc en δ b σ R H q) (hq : ∃ xs, H q = some (.lst xs)) (ho : ∃ xs, o = .lst xs) : ER K bc en δ b σ R (upd H q o) := by
  obtain ⟨zs, hz⟩ := hq
  obtain ⟨ys, rfl⟩ := ho
  have bo' : ∀ c, Bo bc b (upd H q (.lst ys)) c → Bo bc b H c := fun c ⟨p', B, a, e, h, hc⟩ => by
    by_cases hz : p' = q
    · subst hz
      rw [upd_same] at h
      cases h
    · rw [upd_ne hz] at h
      exact ⟨p', B, a, e, h, hc⟩
  refine ⟨I.len, fun c u e => ?_, ⟨I.stp.rr, I.stp.old, fun c u e => ?_, fun c u e n => ?_, fun c z => I.stp.bo c (bo' c z)⟩, fun j u e => ?_, I.own, I.dis, fun p B e => ?_⟩
  · rw [upd_ne (ne_of_none e f.nr)]
    exact I.sub c u e
  · by_cases hc : c = q
    · subst hc
      exact ⟨_, upd_same⟩
    · rw [upd_ne hc]
      exact I.stp.dom c u e
  · rw [upd_ne (ne_of_none e f.h0)]
    exact I.stp.out c u e n
  · have h := I.sl j u e
    cases hg : gt δ j with
    | no => exact .no
    | vl d =>
      rw [hg] at h
      cases h with
      | vl r => exact .vl r
    | ow fs =>
      rw [hg] at h
      cases h with
      | ow h1 h2 h3 =>
        refine .ow ?_ h2 h3
        rw [upd_ne]
        · exact h1
        · rintro rfl
          exact f.no j ⟨fs, hg, e⟩
  · obtain ⟨a, r', n⟩ := I.bd p B e
    have hn : ∀ c ∈ a.own p B.ro, c ≠ q := fun c hc z => f.nb (by rw [e, ← z]; exact (Bo.iff r').mpr hc)
    obtain ⟨x1, h1, q1⟩ := r'.hd
    obtain ⟨x2, h2, q2⟩ := r'.tl
    obtain ⟨x3, h3, q3⟩ := r'.rw
    have m0 : p ∈ a.own p B.ro := by unfold BdA.own; split <;> simp
    have m1 : a.ph ∈ a.own p B.ro := by unfold BdA.own; split <;> simp
    have m2 : a.pt ∈ a.own p B.ro := by unfold BdA.own; split <;> simp
    have m3 : a.pr ≠ q := by
      by_cases hz : B.ro = true
      · exact hn _ (by unfold BdA.own; rw [if_pos hz]; simp)
      · obtain ⟨ys, hy⟩ := r'.fz (by simpa using hz)
        exact ne_of_none hy f.nr
    refine ⟨a, ⟨?_, ⟨x1, ?_, q1⟩, ⟨x2, ?_, q2⟩, ⟨x3, ?_, q3⟩, r'.gl, r'.fz, r'.nr, r'.nd⟩, n⟩
    · rw [upd_ne (hn _ m0)]; exact r'.ins
    · rw [upd_ne (hn _ m1)]; exact h1
    · rw [upd_ne (hn _ m2)]; exact h2
    · rw [upd_ne m3]; exact h3
/-- .. seen from where it was not -/
theorem Stp.loose (x : Stp bc b b' R H R' H') {q : Addr} {ys : List V} (n : H q = none) : Stp bc b b' R H R' (upd H' q (.lst ys)) :=
  ⟨x.rr, x.old, fun c u e => by
    by_cases hc : c = q
    · subst hc
      exact ⟨_, upd_same⟩
    · rw [upd_ne hc]
      exact x.dom c u e, fun c u e z => by
    rw [upd_ne (ne_of_none e n)]
    exact x.out c u e z, fun c ⟨p', B, a, e, h, hc⟩ => by
    by_cases hz : p' = q
    · subst hz
      rw [upd_same] at h
      cases h
    · rw [upd_ne hz] at h
      exact x.bo c ⟨p', B, a, e, h, hc⟩⟩
end

section
variable {S : Sy} {en : En} {N : List Str} {sc : Scope} {X : Cx} {W : WX} {lv : Nat} {x y z : Expr} {e a c : Ex}
/-! ### calls -/
theorem gE_call (C : CK S N sc X W lv) {f : Nat} {es : Exs} {ys : List Expr} {g : Expr} {pos : Pos} (hf : S.M.hf f = true) (hfr : S.G.fr f = false) (hg : glName sc (S.M.fn f) g = true) (ha : PA X (y :: ys) (GEs X.K S en W es))
    (hs : starEach (y :: ys) X.env = (false, eval y X.env) :: starEach ys X.env) (hpl : (backTo pos (starEach ys X.env)).any (·.1) = false) : PE X (.Call g (y :: ys) [] pos) (GE X.K S en W (.call f es)) := by
  obtain ⟨p0, rfl, h1, h2, h3⟩ := gln C hg
  obtain ⟨fa, hm, F⟩ := C.fs.fn f hf
  obtain ⟨fd, ps, hb, ok⟩ := F.ok
  exact peImp (pe_callS ok (C.room.mono (Nat.le_succ _)) h1 hm F.k hb (fun σ => passAt C.tk σ) ha h2 hs hpl) fun σ H Q ⟨δ, b, R, Q', E', I, w, k, ke⟩ => ⟨δ, b, R, fun ds b1 => S.G.sp f ds b1 Q' E', E', I, w, fun ds b1 vs R1 H1 J st r _ q =>
    ⟨ds, b1, R1, Q', E', J.entry r, q, fun d b' v R' H' o hq => by
      unfold Out at o
      rw [hfr] at o
      have o' : ER X.K S.bc ⟨H1, R1, b1⟩ [.vl d] b' [some v] R' H' := by simpa using o
      obtain ⟨J2, st2⟩ := J.back o'
      have rv : Rp X.K R' v d := by
        have h := o'.sl 0 (some v) rfl
        cases h with
        | vl r => exact r
      exact k d b' v R' H' J2 (StQ.off (st.trans st2) rfl) rv hq, fun c R' H' hh o hc => ke c R' H' hh (J.back o).1 hc⟩, ke⟩
theorem gF_call (C : CK S N sc X W lv) {f : Nat} {es : Exs} {ys : List Expr} {g : Expr} {pos : Pos} (hf : S.M.hf f = true) (hfr : S.G.fr f = true) (hg : glName sc (S.M.fn f) g = true) (ha : PA X (y :: ys) (GEs X.K S en W es))
    (hs : starEach (y :: ys) X.env = (false, eval y X.env) :: starEach ys X.env) (hpl : (backTo pos (starEach ys X.env)).any (·.1) = false) : PE X (.Call g (y :: ys) [] pos) (GF X.K S en W (.call f es)) := by
  obtain ⟨p0, rfl, h1, h2, h3⟩ := gln C hg
  obtain ⟨fa, hm, F⟩ := C.fs.fn f hf
  obtain ⟨fd, ps, hb, ok⟩ := F.ok
  exact peImp (pe_callS ok (C.room.mono (Nat.le_succ _)) h1 hm F.k hb (fun σ => passAt C.tk σ) ha h2 hs hpl) fun σ H Q ⟨δ, b, R, Q', E', I, w, k, ke⟩ => ⟨δ, b, R, fun ds b1 => S.G.sp f ds b1 Q' E', E', I, w, fun ds b1 vs R1 H1 J st r _ q =>
    ⟨ds, b1, R1, Q', E', J.entry r, q, fun d b' v R' H' o hq => by
      unfold Out at o
      rw [if_pos hfr] at o
      obtain ⟨fs, rfl, o'⟩ := o
      obtain ⟨J2, st2⟩ := J.back o'
      have h := o'.sl 0 (some v) rfl
      cases h with
      | @ow p xs _ h1 h2 h3 =>
        have oa : OwnAt [.ow fs] [some (.ref p)] 0 p := ⟨fs, rfl, rfl⟩
        have n1 : H1 p = none := o'.own 0 p oa
        have n0 : H p = none := by
          cases e : H p with
          | none => rfl
          | some u =>
            obtain ⟨u', hu⟩ := st.dom p u e
            rw [n1] at hu
            cases hu
        exact k fs b' p xs R' H' J2 (st.trans st2) n0 h3 (fun z => (o'.bo_no z).2.1 0 oa) h1 h2 hq, fun c R' H' hh o hc => ke c R' H' hh (J.back o).1 hc⟩, ke⟩
/-! ### own lists -/
theorem gE_oix (C : CK S N sc X W lv) {i : Nat} {pos : Pos} (h : chkV N sc i y = true) (he : PE X z (GE X.K S en W e)) (hp : PlainIx z) : PE X (.Subscript y z pos) (GE X.K S en W (.oix i e)) :=
  peImp (pe_ix ix_list (pe_slot C h) he hp) fun σ H Q ⟨δ, b, R, Q', E', I, w, k, ke⟩ => by
    have w' : (match gt δ i with
      | .ow ds => wE S.G e δ b (fun x b1 => match x with
        | .int k => ∃ d, L2.atI ds k = some d ∧ Q' d b1
        | _ => False) E'
      | _ => False) := w
    cases hg : gt δ i with
    | no => rw [hg] at w'; exact w'.elim
    | vl _ => rw [hg] at w'; exact w'.elim
    | ow ds =>
      rw [hg] at w'
      obtain ⟨p, xs, h1, oa, h2, h3, h4⟩ := I.owl hg
      refine ⟨.ref p, h1, δ, b, R, _, E', I, w', fun d b1 v R1 H1 J st r q => ?_, ke⟩
      cases d <;> first | exact q.elim | skip
      cases r
      obtain ⟨d, q1, q⟩ := q
      obtain ⟨p', xs', e1, _, e2, e3, _⟩ := J.owl hg
      rw [h1] at e1
      cases e1
      obtain ⟨v, v1, v2⟩ := e3.at q1
      exact ⟨p, xs', _, v, rfl, rfl, SqL.of e2, v1, k d b1 v R1 H1 J (st.weak fun h => h) v2 q⟩
end
end LK

/-! The object's fields; sources; comprehensions. -/
namespace LK
open PySem PySem.Spec PyProof.Rows L2

/-- no star, no slice, no set display -/
def ordX : Expr → Bool
  | .Starred .. => false
  | .Slice .. => false
  | .Set .. => false
  | _ => true
theorem chkE_ord {M : Nms} {N : List Str} {sc : Scope} {e : Ex} {x : Expr} (h : chkE M N sc e x = true) : ordX x = true := by
  cases x <;> first | rfl | skip
  all_goals
    exfalso
    cases e <;> try (simp [chkE, chkV, chkK, glName, chkF] at h; done)
    · rename_i o a
      cases o <;> simp [chkE, blt1, isiT] at h
    · rename_i o a c
      cases o <;> simp [chkE, binT, cmpT, blt2] at h
theorem star_of {x : Expr} (h : ordX x = true) (xs : List Expr) (env : PySem.Env) : starEach (x :: xs) env = (false, eval x env) :: starEach xs env := by
  cases x <;> first | rfl | exact Bool.noConfusion h
theorem plainIx_of {x : Expr} (h : ordX x = true) : PlainIx x := fun o i => by
  cases x <;> first | rfl | exact Bool.noConfusion h
theorem noSet_of {x : Expr} (h : ordX x = true) {env : PySem.Env} (v : Value) : foldedSetIterable x env v = pure v := by
  cases x <;> first | rfl | exact Bool.noConfusion h
theorem marks_of {x : Expr} (h : ordX x = true) (op : CmpOp) : behindInMarks op x = false := by
  cases x <;> first | rfl | exact Bool.noConfusion h
theorem stars_of : ∀ {xs : List Expr}, (∀ x ∈ xs, ordX x = true) → ∀ (pos : Pos) (env : PySem.Env), (backTo pos (starEach xs env)).any (·.1) = false
  | [], _, _, _ => rfl
  | x :: xs, h, pos, env => by
    rw [star_of (h x List.mem_cons_self)]
    have ih := stars_of (fun y hy => h y (List.mem_cons_of_mem _ hy)) pos env
    unfold backTo at ih ⊢
    rw [List.map_cons, List.any_cons, ih]
    rfl
theorem chkEs_ord {M : Nms} {N : List Str} {sc : Scope} : ∀ {es : Exs} {xs : List Expr}, chkEs M N sc es xs = true → (∀ x ∈ xs, ordX x = true) ∧ nEs es = xs.length
  | .nil, xs, h => by
    have e : xs = [] := by
      cases xs with
      | nil => rfl
      | cons _ _ => simp [chkEs] at h
    subst e
    exact ⟨fun _ hx => (by cases hx), rfl⟩
  | .cons e es, [], h => by simp [chkEs] at h
  | .cons e es, x :: xs, h => by
    simp only [chkEs, Bool.and_eq_true] at h
    obtain ⟨h1, h2⟩ := chkEs_ord h.2
    refine ⟨fun y hy => ?_, by rw [List.length_cons, ← h2]; rfl⟩
    rcases List.mem_cons.mp hy with e | hy
    · rw [e]; exact chkE_ord h.1
    · exact h1 y hy

/-! ### fields -/
def fadr (a : BdA) : Fl → Addr
  | .heads => a.ph
  | .tails => a.pt
  | .rows => a.pr
  | .goal => a.pg
theorem fs_look (a : BdA) (f : Fl) : (bdFs a).lookup (flName f) = some (.ref (fadr a f)) := by
  cases f <;> rfl
section
variable {S : Sy} {en : En} {N : List Str} {sc : Scope} {X : Cx} {W : WX} {lv : Nat} {x y z : Expr} {e a c : Ex}
theorem theB_inv {δ : Env} {v : Nat} {b : Ob} {Q : Addr → Bd → Prop} (h : theB δ v b Q) : ∃ p B, gt δ v = .vl (.brd p) ∧ b = some (p, B) ∧ Q p B := by
  unfold theB at h
  cases hg : gt δ v with
  | no => rw [hg] at h; exact h.elim
  | ow _ => rw [hg] at h; exact h.elim
  | vl d =>
    rw [hg] at h
    cases d <;> first | exact h.elim | skip
    rename_i p
    cases b with
    | none => exact h.elim
    | some q =>
      obtain ⟨rfl, h⟩ := h
      exact ⟨q.1, q.2, rfl, rfl, h⟩
theorem BdR.fl {K : PySem.W.Frag} {bc : Addr} {R H : Hp} {p : Addr} {B : Bd} {a : BdA} (r : BdR K bc R H p B a) (hs : Sub R H) (f : Fl) : ∃ xs, H (fadr a f) = some (.lst xs) ∧ Rps K R xs (fld B f) := by
  cases f with
  | heads => exact r.hd
  | tails => exact r.tl
  | rows => exact r.rw
  | goal =>
    obtain ⟨xs, h1, h2⟩ := r.gl
    exact ⟨xs, hs _ _ h1, h2⟩
theorem chkF_inv {M : Nms} {f : Fl} {v : Nat} (h : chkF M N sc f v x = true) : M.hb = true ∧ ∃ o pos, x = .Attribute o (flName f) pos ∧ chkV N sc v o = true := by
  unfold chkF at h
  split at h
  · simp only [Bool.and_eq_true] at h
    obtain ⟨⟨h1, h2⟩, h3⟩ := h
    have e := beq_iff_eq.mp h3
    subst e
    exact ⟨h1, _, _, rfl, h2⟩
  · cases h
theorem base_V {v : Nat} {o : Expr} (h : chkV N sc v o = true) (f : Str) (env : PySem.Env) (whole : Sem Value) : attributeBase o f env whole = whole := by
  unfold chkV at h
  split at h
  · rfl
  · cases h
/-- a field, read -/
theorem pe_field (C : CK S N sc X W lv) {f : Fl} {v : Nat} (h : chkF S.M N sc f v x = true) : PE X x (tFld X.K (tVar v) (flName f)) := by
  obtain ⟨_, o, pos, rfl, hv⟩ := chkF_inv h
  exact pe_fld (pe_slot C hv) (base_V hv _ _ _)
theorem fld_read (C : CK S N sc X W lv) {f : Fl} {v : Nat} (h : chkF S.M N sc f v x = true) {δ : Env} {b : Ob} {σ : L2.St} {R H : Hp} (I : ER X.K S.bc en δ b σ R H) {p : Addr} {B : Bd} (hg : gt δ v = .vl (.brd p)) (hb : b = some (p, B)) :
    ∃ a xs, H (fadr a f) = some (.lst xs) ∧ Rps X.K R xs (fld B f) ∧ (f = .goal → R (fadr a f) = some (.lst xs)) ∧ ∀ Q : VK, Q (.ref (fadr a f)) H → tFld X.K (tVar v) (flName f) σ H Q := by
  obtain ⟨hbd, _⟩ := chkF_inv h
  have F := C.fs.bd hbd
  obtain ⟨u, h1, h2⟩ := I.val hg
  cases h2
  obtain ⟨a, r, _⟩ := I.bd p B hb
  obtain ⟨xs, h3, h4⟩ := r.fl I.sub f
  refine ⟨a, xs, h3, h4, fun e => ?_, fun Q q => ⟨.ref p, h1, p, S.bc, a.dx, bdFs a, _, rfl, r.ins, F.c, F.n f, fs_look a f, q⟩⟩
  subst e
  obtain ⟨ys, g1, g2⟩ := r.gl
  have e := I.sub _ _ g1
  have e2 : fadr a .goal = a.pg := rfl
  rw [e2] at h3 ⊢
  rw [e] at h3
  cases h3
  exact g1
theorem gE_fix (C : CK S N sc X W lv) {f : Fl} {v : Nat} {pos : Pos} (hq : quiet e = true) (h : chkF S.M N sc f v y = true) (he : PE X z (GE X.K S en W e)) (hp : PlainIx z) : PE X (.Subscript y z pos) (GE X.K S en W (.fix f v e)) :=
  peImp (pe_ix ix_list (pe_field C h) he hp) fun σ H Q ⟨δ, b, R, Q', E', I, w, k, ke⟩ => by
    obtain ⟨p, B, hg, hb, w⟩ := theB_inv w
    obtain ⟨a, xs, h1, h2, _, h3⟩ := fld_read C h I hg hb
    refine h3 _ ⟨δ, b, R, _, E', I, w, fun d b1 v R1 H1 J st r q => ?_, ke⟩
    cases d <;> first | exact q.elim | skip
    cases r
    obtain ⟨d, q1, q⟩ := q
    obtain ⟨v, v1, v2⟩ := h2.at q1
    exact ⟨_, xs, _, v, rfl, rfl, SqL.of (st.qs hq _ _ h1), v1, k d b1 v R1 H1 J (st.weak fun h => h) (v2.mono st.st.rr) q⟩
theorem gE_flen (C : CK S N sc X W lv) {f : Fl} {v : Nat} {g : Expr} {pos : Pos} (hl : glName sc "len" g = true) (h : chkF S.M N sc f v y = true) : PE X (.Call g [y] [] pos) (GE X.K S en W (.flen f v)) := by
  obtain ⟨p0, rfl, h1, h2, h3⟩ := gln C hl
  have ho : ordX y = true := by
    obtain ⟨_, o, q, rfl, _⟩ := chkF_inv h
    rfl
  refine peImp (pe_callB call_len_seq h1 (blt_none C (by decide +kernel)) PySem.boot_len (pa_cons (pe_field C h) pa_nil (star_of ho [] _)) h3 h2 (star_of ho [] _) rfl) fun σ H Q ⟨δ, b, R, Q', E', I, w, k, ke⟩ => ?_
  obtain ⟨p, B, hg, hb, w⟩ := theB_inv w
  obtain ⟨a, xs, h1, h2, _, h3⟩ := fld_read C h I hg hb
  refine h3 _ ⟨_, xs, rfl, .inl (SqL.of h1), ?_⟩
  rw [h2.length]
  exact k _ b _ R H I (StQ.refl I.sub) (.int _) w
theorem inV_ints (k : Int) : ∀ ns : List Int, inV (.int k) (ns.map V.int) = decide (k ∈ ns)
  | [] => rfl
  | n :: ns => by
    have ih := inV_ints k ns
    unfold inV at ih ⊢
    rw [List.map_cons, List.any_cons, ih]
    show ((n == k) || decide (k ∈ ns)) = decide (k ∈ n :: ns)
    by_cases h : k = n
    · subst h; simp
    · have h' : ¬ n = k := fun e => h e.symm
      simp [h, h']
theorem flat_ints : ∀ ns : List Int, (ns.map V.int).all flatV = true
  | [] => rfl
  | n :: ns => by
    rw [List.map_cons, List.all_cons, flat_ints ns]
    rfl
theorem gE_fin (C : CK S N sc X W lv) {f : Fl} {v : Nat} {pos : Pos} (h : chkF S.M N sc f v z = true) (he : PE X y (GE X.K S en W e)) : PE X (.Compare y [.In] [z] pos) (GE X.K S en W (.fin f v e)) := by
  have ho : ordX z = true := by
    obtain ⟨_, o, q, rfl, _⟩ := chkF_inv h
    rfl
  refine peImp (pe_cmpR op_in_seq he (pe_field C h) (marks_of ho _)) fun σ H Q ⟨δ, b, R, Q', E', I, w, k, ke⟩ => ⟨δ, b, R, _, E', I, w, fun d b1 u R1 H1 J st r q => ?_, ke⟩
  obtain ⟨p, B, hg, hb, q⟩ := theB_inv q
  cases d <;> first | exact q.elim | skip
  cases r
  obtain ⟨ns, e1, q⟩ := q
  obtain ⟨a, xs, h1, h2, _, h3⟩ := fld_read C h J hg hb
  rw [e1] at h2
  have e2 := h2.ints
  subst e2
  refine h3 _ ⟨_, _, rfl, .inl (SqL.of h1), rfl, flat_ints ns, ?_⟩
  show Q (.bl (inV _ _)) H1
  rw [inV_ints]
  exact k _ b1 _ R1 H1 J (st.weak fun h => h) (.bl _) q
theorem gT_fin (C : CK S N sc X W lv) {f : Fl} {v : Nat} {pos : Pos} (h : chkF S.M N sc f v z = true) (he : PE X y (GE X.K S en W e)) : PT X (.Compare y [.In] [z] pos) (GT X.K S en W (.fin f v e)) := by
  have ho : ordX z = true := by
    obtain ⟨_, o, q, rfl, _⟩ := chkF_inv h
    rfl
  refine ptImp (pt_cmpR op_in_seq he (pe_field C h) (marks_of ho _)) fun σ H Q ⟨δ, b, R, Q', E', I, w, k, ke⟩ => ⟨δ, b, R, _, E', I, w, fun d b1 u R1 H1 J st r q => ?_, ke⟩
  obtain ⟨p, B, hg, hb, q⟩ := theB_inv q
  cases d <;> first | exact q.elim | skip
  cases r
  obtain ⟨ns, e1, q⟩ := q
  obtain ⟨a, xs, h1, h2, _, h3⟩ := fld_read C h J hg hb
  rw [e1] at h2
  have e2 := h2.ints
  subst e2
  refine h3 _ ⟨_, _, rfl, .inl (SqL.of h1), rfl, flat_ints ns, _, rfl, ?_⟩
  show Q (inV _ _) H1
  rw [inV_ints]
  exact k _ b1 R1 H1 J st.st q
theorem gE_fidx (C : CK S N sc X W lv) {f : Fl} {v : Nat} {ap cp : Pos} (hq : quiet e = true) (h : chkF S.M N sc f v y = true) (hl : (ap.endLine == cp.line) = true) (hz : ordX z = true) (he : PE X z (GE X.K S en W e)) : PE X (.Call (.Attribute y "index" ap) [z] [] cp) (GE X.K S en W (.fidx f v e)) := by
  have hbase : ∀ whole, attributeBase y "index" X.env whole = whole := fun whole => by
    obtain ⟨_, o, q, rfl, _⟩ := chkF_inv h
    rfl
  have hs := star_of hz [] X.env
  refine peImp (pe_bm PySem.F.plainAttrs_list PySem.F.slot_list_index PySem.F.type_list_index mt_index (pe_field C h) (pa_cons he pa_nil hs) (hbase _) (by rw [hs]; rfl) hl hs rfl) fun σ H Q ⟨δ, b, R, Q', E', I, w, k, ke⟩ => ?_
  obtain ⟨p, B, hg, hb, w⟩ := theB_inv w
  obtain ⟨a, xs, h1, h2, _, h3⟩ := fld_read C h I hg hb
  refine h3 _ ⟨.inl ⟨rfl, _, SqL.of h1⟩, δ, b, R, _, E', I, w, fun d b1 u R1 H1 J st r q => ?_, ke⟩
  cases d <;> first | exact q.elim | skip
  rename_i m
  cases r
  obtain ⟨ns, e1, e2, q⟩ := q
  rw [e1] at h2
  have e3 := h2.ints
  subst e3
  have lt : ns.idxOf m < ns.length := List.idxOf_lt_length_iff.mpr e2
  refine ⟨_, _, .int m, ns.idxOf m, .int m, rfl, rfl, SqL.of (st.qs hq _ _ h1), rfl, flat_ints ns, ?_, ?_, fun j z' hj hz' => ?_, k _ b1 _ R1 H1 J (st.weak fun h => h) (.int _) q⟩
  · rw [List.getElem?_map, List.getElem?_eq_getElem lt, List.getElem_idxOf]
    rfl
  · show (m == m) = true
    exact beq_self_eq_true m
  · rw [List.getElem?_map] at hz'
    cases e4 : ns[j]? with
    | none => rw [e4] at hz'; cases hz'
    | some t =>
      rw [e4] at hz'
      cases hz'
      show (t == m) = false
      obtain ⟨hj', e5⟩ := List.getElem?_eq_some_iff.mp e4
      have := List.not_of_lt_findIdx (p := fun x => x == m) (xs := ns) (i := j) hj
      rw [← e5]
      simpa using this
theorem gE_fgoal (C : CK S N sc X W lv) {v : Nat} (h : chkF S.M N sc .goal v x = true) : PE X x (GE X.K S en W (.fgoal v)) :=
  peImp (pe_field C h) fun σ H Q ⟨δ, b, R, Q', E', I, w, k, ke⟩ => by
    obtain ⟨p, B, hg, hb, w⟩ := theB_inv w
    obtain ⟨a, xs, h1, h2, hR, h3⟩ := fld_read C h I hg hb
    exact h3 _ (k _ b _ R H I (StQ.refl I.sub) (.lst (hR rfl) h2) w)
theorem gE_fsl (C : CK S N sc X W lv) {f : Fl} {v : Nat} {lo hi : Ox} {l h' : Option Expr} {p2 pos : Pos} (q1 : quietO lo = true) (q2 : quietO hi = true) (h : chkF S.M N sc f v y = true) (hl : PO X l (GO X.K S en W lo)) (hh : PO X h' (GO X.K S en W hi)) :
    PE X (.Subscript y (.Slice l h' none p2) pos) (GE X.K S en W (.fsl f v lo hi)) :=
  peImp (pe_slice sl_list (pe_field C h) hl hh) fun σ H Q ⟨δ, b, R, Q', E', I, w, k, ke⟩ => by
    obtain ⟨p, B, hg, hb, w⟩ := theB_inv w
    obtain ⟨a, xs, h1, h2, _, h3⟩ := fld_read C h I hg hb
    refine h3 _ ⟨δ, b, R, _, E', I, w, fun l b1 R1 H1 J st q => ⟨δ, b1, R1, _, E', J, q, fun u b2 R2 H2 J2 st2 q' => ?_, ke⟩, ke⟩
    refine ⟨_, xs, rfl, SqL.of (st2.qs q2 _ _ (st.qs q1 _ _ h1)), fun r hr => ?_⟩
    obtain ⟨J3, st3⟩ := stp_growS J2 (st.st.trans st2.st) (Grow.new (o := .lst (cutV xs l u)) J2.sub hr)
    exact k _ b2 (.ref r) _ _ J3 (StQ.off st3 rfl) (.lst upd_same (((h2.cut l u).mono (st.st.trans st2.st).rr).mono (Sub.new (J2.sub.fre hr)))) q'
end
end LK

/-! Sources; comprehensions. -/
namespace LK
open PySem PySem.Spec PyProof.Rows L2

/-- an iterator walks these items, as long as what stands stands and A holds -/
structure Wk (K : PySem.W.Frag) (J : It) (R1 : Hp) (A : Hp → Prop) (xs : List D) : Prop where
  go : ∀ i R H d, Sub R1 R → Sub R H → A H → xs[i]? = some d → J.go i H ∧ ∀ x H', J.yld i H x H' → ∃ R', Grow R H R' H' ∧ Rp K R' x d
  stop : ∀ R H, Sub R1 R → Sub R H → A H → J.stop xs.length H
section
variable {K : PySem.W.Frag} {R1 : Hp}
theorem Wk.list {a : Addr} {vs : List V} {xs : List D} (A : Hp → Prop) (hA : ∀ R H, Sub R1 R → Sub R H → A H → SqL K H a vs) (inj : True) (r : Rps K R1 vs xs) (one : ∀ H, ∀ ys, SqL K H a ys → SqL K H a vs → ys = vs) : Wk K (Itl K a) R1 A xs where
  go := fun i R H d h1 h2 hH e => by
    obtain ⟨v, e1, e2⟩ := r.get e
    have q := hA R H h1 h2 hH
    refine ⟨⟨vs, v, q, e1⟩, fun x H' ⟨eH, hx⟩ => ?_⟩
    subst eH
    have e3 := hx vs q
    rw [e1] at e3
    cases e3
    exact ⟨R, Grow.refl h2, e2.mono h1⟩
  stop := fun R H h1 h2 hH => ⟨vs, hA R H h1 h2 hH, by rw [r.length]; exact Nat.le_refl _⟩
theorem Wk.tup {a : Addr} {vs : List V} {xs : List D} (h : SqT K R1 a vs) (r : Rps K R1 vs xs) : Wk K (Itt K a) R1 (fun _ => True) xs where
  go := fun i R H d h1 h2 _ e => by
    obtain ⟨v, e1, e2⟩ := r.get e
    have q := sub_sqT (h1.trans h2) h
    refine ⟨⟨vs, v, q, e1⟩, fun x H' ⟨eH, hx⟩ => ?_⟩
    subst eH
    have e3 := hx vs q
    rw [e1] at e3
    cases e3
    exact ⟨R, Grow.refl h2, e2.mono h1⟩
  stop := fun R H h1 h2 _ => ⟨vs, sub_sqT (h1.trans h2) h, by rw [r.length]; exact Nat.le_refl _⟩
theorem Wk.rng {lo : Int} {n : Nat} : Wk K (Itr lo n) R1 (fun _ => True) (rngD lo n) where
  go := fun i R H d h1 h2 _ e => by
    unfold rngD at e
    rw [List.getElem?_map] at e
    cases q : (List.range n)[i]? with
    | none => rw [q] at e; cases e
    | some k =>
      rw [q] at e
      obtain ⟨hl, hk⟩ := List.getElem?_eq_some_iff.mp q
      rw [List.getElem_range] at hk
      subst hk
      have e' : D.int (lo + (i : Nat)) = d := Option.some.inj e
      subst e'
      refine ⟨show i < n by simpa using hl, fun x H' ⟨eH, hx⟩ => ?_⟩
      subst eH
      subst hx
      exact ⟨R, Grow.refl h2, .int _⟩
  stop := fun R H h1 h2 _ => by
    show n ≤ (rngD lo n).length
    unfold rngD
    rw [List.length_map, List.length_range]
    exact Nat.le_refl n
theorem zipD_get : ∀ {xs ys : List D} {i : Nat} {d : D}, (zipD xs ys)[i]? = some d → ∃ x y, xs[i]? = some x ∧ ys[i]? = some y ∧ d = .tup [x, y]
  | [], _, _, _, h => by simp [zipD] at h
  | _ :: _, [], _, _, h => by simp [zipD] at h
  | x :: xs, y :: ys, 0, d, h => by
    simp [zipD] at h
    exact ⟨x, y, rfl, rfl, h.symm⟩
  | x :: xs, y :: ys, i + 1, d, h => by
    obtain ⟨a, b, h1, h2, h3⟩ := zipD_get (xs := xs) (ys := ys) (i := i) (d := d) (by simpa [zipD] using h)
    exact ⟨a, b, by simpa using h1, by simpa using h2, h3⟩
theorem zipD_len : ∀ (xs ys : List D), (zipD xs ys).length = min xs.length ys.length
  | [], ys => by simp [zipD]
  | _ :: _, [] => by simp [zipD]
  | x :: xs, y :: ys => by
    simp only [zipD, List.length_cons, zipD_len xs ys]
    omega
/-- two things read side by side -/
theorem Wk.zip {a c : Addr} {vs ws : List V} {xs ys : List D} {J : It} (P1 P2 : Hp → List V → Prop) (h1 : ∀ R H, Sub R1 R → Sub R H → P1 H vs ∧ P2 H ws) (r1 : Rps K R1 vs xs) (r2 : Rps K R1 ws ys)
    (hg : ∀ i H (x y : V), P1 H vs → P2 H ws → vs[i]? = some x → ws[i]? = some y → J.go i H)
    (hy : ∀ i H v H', J.yld i H v H' → ∃ T x y, v = .ref T ∧ H T = none ∧ H' = upd H T (.tup [x, y]) ∧ (∀ l, P1 H l → l[i]? = some x) ∧ ∀ l, P2 H l → l[i]? = some y)
    (hs : ∀ i H, P1 H vs → P2 H ws → (vs.length ≤ i ∨ ws.length ≤ i) → i ≤ vs.length → i ≤ ws.length → J.stop i H) : Wk K J R1 (fun _ => True) (zipD xs ys) where
  go := fun i R H d s1 s2 _ e => by
    obtain ⟨x, y, e1, e2, rfl⟩ := zipD_get e
    obtain ⟨v, v1, v2⟩ := r1.get e1
    obtain ⟨w, w1, w2⟩ := r2.get e2
    obtain ⟨p1, p2⟩ := h1 R H s1 s2
    refine ⟨hg i H v w p1 p2 v1 w1, fun u H' yl => ?_⟩
    obtain ⟨T, x', y', rfl, nT, rfl, f1, f2⟩ := hy i H u H' yl
    have ex := f1 vs p1
    rw [v1] at ex
    cases ex
    have ey := f2 ws p2
    rw [w1] at ey
    cases ey
    have g : Grow R H (upd R T (.tup [v, w])) (upd H T (.tup [v, w])) := Grow.new s2 nT
    exact ⟨_, g, .tup (SqT.of upd_same) (.cons ((v2.mono s1).mono g.rr) (.cons ((w2.mono s1).mono g.rr) .nil))⟩
  stop := fun R H s1 s2 _ => by
    obtain ⟨p1, p2⟩ := h1 R H s1 s2
    rw [zipD_len, ← r1.length, ← r2.length]
    exact hs _ H p1 p2 (by omega) (by omega) (by omega)
end

section
variable (K : PySem.W.Frag) (S : Sy) (en : En) (W : WX)
def GI (src : Src) : TI := fun σ H R => ∃ δ b R0 Q' E', ER K S.bc en δ b σ R0 H ∧ wSrc S.G src δ b Q' E' ∧
  (∀ xs b' J R1 H1, ER K S.bc en δ b' σ R1 H1 → Stp S.bc b b' R0 H R1 H1 → Wk K J R1 (fun _ => True) xs → Q' xs b' → R J H1) ∧ EOk K S en W δ σ E'
end
section
variable {S : Sy} {en : En} {N : List Str} {sc : Scope} {X : Cx} {W : WX} {lv : Nat} {x y z tg : Expr} {e a c : Ex}
theorem gI_rng (C : CK S N sc X W lv) {g : Expr} {pos : Pos} (hg : glName sc "range" g = true) (ho : ordX y = true) (he : PE X y (GE X.K S en W e)) : PI X tg (.Call g [y] [] pos) (GI X.K S en W (.rng e)) := by
  obtain ⟨p0, rfl, h1, h2, h3⟩ := gln C hg
  have hs := star_of ho [] X.env
  refine piImp (pi_range1 h1 (blt_none C (by decide +kernel)) (pa_cons he pa_nil hs) hs) fun σ H R ⟨δ, b, R0, Q', E', I, w, k, ke⟩ => ⟨δ, b, R0, _, E', I, w, fun d b1 v R1 H1 J st r q => ?_, ke⟩
  cases d <;> first | exact q.elim | skip
  cases r
  obtain ⟨⟨q1, q2⟩, q⟩ := q
  exact ⟨_, rfl, q1, q2, k _ b1 _ R1 H1 J st.st Wk.rng q⟩
theorem gI_rng2 (C : CK S N sc X W lv) {g : Expr} {pos : Pos} (hg : glName sc "range" g = true) (ho : ordX y = true) (ho2 : ordX z = true) (he : PE X y (GE X.K S en W a)) (he2 : PE X z (GE X.K S en W c)) : PI X tg (.Call g [y, z] [] pos) (GI X.K S en W (.rng2 a c)) := by
  obtain ⟨p0, rfl, h1, h2, h3⟩ := gln C hg
  have hs2 := star_of ho2 [] X.env
  have hs := star_of ho [z] X.env
  refine piImp (pi_range2 h1 (blt_none C (by decide +kernel)) (pa_cons he (pa_cons he2 pa_nil hs2) hs) (by rw [hs, hs2]; rfl) hs2) fun σ H R ⟨δ, b, R0, Q', E', I, w, k, ke⟩ => ⟨δ, b, R0, _, E', I, w, fun d b1 v R1 H1 J st r q => ⟨δ, b1, R1, _, E', J, q, fun d2 b2 v2 R2 H2 J2 st2 r2 q2 => ?_, ke⟩, ke⟩
  cases d <;> cases d2 <;> first | exact q2.elim | skip
  cases r
  cases r2
  obtain ⟨q1, q⟩ := q2
  exact ⟨_, _, rfl, q1, k _ b2 _ R2 H2 J2 (st.st.trans st2.st) Wk.rng q⟩
theorem inj_list {R H : Hp} {a : Addr} {vs : List V} (h : R a = some (.lst vs)) (s : Sub R H) : ∀ ys, Rd H a (.lst ys) → ys = vs := fun ys h' => by
  have e := s _ _ h
  rcases h' with q | ⟨o, q⟩
  · rw [e] at q
    cases q
    rfl
  · rw [e] at q
    cases q
/-- a list or a tuple, walked -/
theorem gI_seq (ho : ordX y = true) (he : PE X y (GE X.K S en W e)) : PI X tg y (GI X.K S en W (.seq e)) := by
  refine ⟨fun pins s σ H R I0 ⟨δ, b, R0, Q', E', I, w, k, ke⟩ => ?_⟩
  have run : wpAny (model X.prog X.w) X.A (eval y X.env) (EP X pins σ (fun v H1 => ∃ d b1 R1, ER X.K S.bc en δ b1 σ R1 H1 ∧ Stp S.bc b b1 R0 H R1 H1 ∧ Rp X.K R1 v d ∧ wseq d fun xs => Q' xs b1)) X.xe s :=
    he.run pins s σ H _ I0 ⟨δ, b, R0, _, E', I, w, fun d b1 v R1 H1 J st r q => ⟨d, b1, R1, J, st.st, r, q⟩, ke⟩
  refine thn run fun v s1 ⟨u, H1, I1, r1, d, b1, R1, J, st, r, q⟩ => ?_
  -- the value is there: as the rules for a list, a tuple
  have fl : ∀ a vs xs, u = .ref a → SqL X.K H1 a vs → (∀ R H, Sub R1 R → Sub R H → SqL X.K H a vs) → Rps X.K R1 vs xs → Q' xs b1 → wpAny (model X.prog X.w) X.A (pyIter v) (PIE X pins σ tg R) X.xe s1 := fun a vs xs eu hq hm rs hx => by
    subst eu
    cases r1
    obtain ⟨its, rv, p, hz⟩ := I1.list hq
    refine wpAny_pyIter_list p.isList ?_
    refine ⟨s1.heap.objs.size, [s1.heap.objs.size], _, _, H1, rfl, I1.kept (t' := s1.toks) fun b o e => Heap.get?_push_of_some _ e, turn_list a _, ⟨_, Heap.get?_push_size _ rfl, rfl, rfl⟩, fun b hb => ?_, ?_⟩
    · have e : b = s1.heap.objs.size := by simpa using hb
      subst e
      exact I1.fpOk (Nat.le_refl _) (I1.hok.fresh (Nat.le_refl _))
    · refine k xs b1 _ R1 H1 J st ⟨fun i R H d h1 h2 _ e => ?_, fun R H h1 h2 _ => ⟨vs, hm R H h1 h2, by rw [rs.length]; exact Nat.le_refl _⟩⟩ hx
      obtain ⟨v, e1, e2⟩ := rs.get e
      have q := hm R H h1 h2
      refine ⟨⟨vs, v, q, e1⟩, fun x H' ⟨eH, hx⟩ => ?_⟩
      subst eH
      have e3 := hx vs q
      rw [e1] at e3
      cases e3
      exact ⟨R, Grow.refl h2, e2.mono h1⟩
  cases r with
  | non => exact q.elim
  | bl _ => exact q.elim
  | int _ => exact q.elim
  | str _ => exact q.elim
  | brd _ => exact q.elim
  | @lst a vs xs h1 rs => exact fl a vs xs rfl (Sub.list J.sub h1) (fun R H s1 s2 => Sub.list (s1.trans s2) h1) rs q
  | @scr a ns h1 => exact fl a _ _ rfl (sub_sqL J.sub h1) (fun R H s1 s2 => sub_sqL (s1.trans s2) h1) (Rps.of_ints ns) q
  | @tup a vs xs h1 rs =>
    cases r1
    obtain ⟨its, rv, p, hz⟩ := I1.tuple (sub_sqT J.sub h1)
    refine wpAny_pyIter_tuple (show s1.heap.IsTuple a its.toArray from p) ?_
    refine ⟨s1.heap.objs.size, [s1.heap.objs.size], _, _, H1, rfl, I1.kept (t' := s1.toks) fun b o e => Heap.get?_push_of_some _ e, turn_tuple a _, ⟨_, Heap.get?_push_size _ rfl, rfl, rfl⟩, fun b hb => ?_, ?_⟩
    · have e : b = s1.heap.objs.size := by simpa using hb
      subst e
      exact I1.fpOk (Nat.le_refl _) (I1.hok.fresh (Nat.le_refl _))
    · exact k xs b1 _ R1 H1 J st (Wk.tup h1 rs) q
theorem gI_zip (C : CK S N sc X W lv) {g : Expr} {pos tpos : Pos} {elts : List Expr} {kk : Nat} (hg : glName sc "zip" g = true) (ho : ordX y = true) (ho2 : ordX z = true) (he : PE X y (GE X.K S en W a)) (he2 : PE X z (GE X.K S en W c)) :
    PI X (.Tuple elts kk tpos) (.Call g [y, z] [] pos) (GI X.K S en W (.zip a c)) := by
  obtain ⟨p0, rfl, h1, h2, h3⟩ := gln C hg
  have hs2 := star_of ho2 [] X.env
  have hs := star_of ho [z] X.env
  refine piImp (pi_zipM h1 (blt_none C (by decide +kernel)) (pa_cons he (pa_cons he2 pa_nil hs2) hs) hs (by rw [hs2]; rfl)) fun σ H R ⟨δ, b, R0, Q', E', I, w, k, ke⟩ => ⟨δ, b, R0, _, E', I, w, fun d b1 v R1 H1 J st r q => ⟨δ, b1, R1, _, E', J, q, fun d2 b2 v2 R2 H2 J2 st2 r2 q2 => ?_, ke⟩, ke⟩
  have stt := st.st.trans st2.st
  have rr := st2.st.rr
  cases d <;> cases d2 <;> first | exact q2.elim | skip
  · cases r with
    | @tup p vs _ p1 r1 =>
      cases r2 with
      | @tup p' ws _ p1' r1' =>
        refine ⟨_, _, vs, ws, rfl, .inr (.inl ⟨sub_sqT J2.sub (sub_sqT rr p1), sub_sqT J2.sub p1', ?_⟩)⟩
        refine k _ b2 _ R2 H2 J2 stt (Wk.zip (a := p) (c := p') (fun H l => SqT X.K H p l) (fun H l => SqT X.K H p' l) (fun R H s1 s2 => ⟨sub_sqT (s1.trans s2) (sub_sqT rr p1), sub_sqT (s1.trans s2) p1'⟩) (r1.mono rr) r1' (fun i H x y p1 p2 e1 e2 => ⟨vs, ws, x, y, p1, p2, e1, e2⟩) (fun i H v H' yl => yl) fun i H p1 p2 h _ _ => ⟨vs, ws, p1, p2, h⟩) q2
  · cases r with
    | @tup p vs _ p1 r1 =>
      cases r2 with
      | @lst p' ws _ p1' r1' =>
        refine ⟨_, _, vs, ws, rfl, .inr (.inr ⟨sub_sqT J2.sub (sub_sqT rr p1), Sub.list J2.sub p1', ?_⟩)⟩
        refine k _ b2 _ R2 H2 J2 stt (Wk.zip (a := p) (c := p') (fun H l => SqT X.K H p l) (fun H l => SqL X.K H p' l) (fun R H s1 s2 => ⟨sub_sqT (s1.trans s2) (sub_sqT rr p1), Sub.list (s1.trans s2) p1'⟩) (r1.mono rr) r1' (fun i H x y p1 p2 e1 e2 => ⟨vs, ws, x, y, p1, p2, e1, e2⟩) (fun i H v H' yl => yl) fun i H p1 p2 h h3 h4 => ⟨vs, ws, p1, p2, h, h3, h4⟩) q2
  · cases r with
    | @lst p vs _ p1 r1 =>
      cases r2 with
      | @lst p' ws _ p1' r1' =>
        refine ⟨_, _, vs, ws, rfl, .inl ⟨Sub.list J2.sub (rr _ _ p1), Sub.list J2.sub p1', ?_⟩⟩
        refine k _ b2 _ R2 H2 J2 stt (Wk.zip (a := p) (c := p') (fun H l => SqL X.K H p l) (fun H l => SqL X.K H p' l) (fun R H s1 s2 => ⟨Sub.list (s1.trans s2) (rr _ _ p1), Sub.list (s1.trans s2) p1'⟩) (r1.mono rr) r1' (fun i H x y p1 p2 e1 e2 => ⟨vs, ws, x, y, p1, p2, e1, e2⟩) (fun i H v H' yl => yl) fun i H p1 p2 h _ _ => ⟨vs, ws, p1, p2, h⟩) q2
end
end LK

/-! Targets; comprehensions. -/
namespace LK
open PySem PySem.Spec PyProof.Rows L2

/-- a target's reading -/
def gTg (K : PySem.W.Frag) : Tg → TG
  | .nm i => gName i
  | .pr i j => gTup K 2 (gCons (gName i) (gCons (gName j) gNil))
def setTg : Tg → V → V → L2.St → L2.St
  | .nm i, x, _, σ => σ.set i (some x)
  | .pr i j, x, y, σ => (σ.set i (some x)).set j (some y)
theorem binds_pr {i j : Nat} {δ : Env} {P : Env → Prop} : ∀ {d : D}, binds (.pr i j) d δ P → ∃ a c, d = .tup [a, c] ∧ P (st (st δ i (.vl a)) j (.vl c))
  | .tup [a, c], h => ⟨a, c, rfl, h⟩
  | .tup [], h => h.elim
  | .tup [_], h => h.elim
  | .tup (_ :: _ :: _ :: _), h => h.elim
  | .non, h => h.elim
  | .bl _, h => h.elim
  | .int _, h => h.elim
  | .str _, h => h.elim
  | .lst _, h => h.elim
  | .scr _, h => h.elim
  | .brd _, h => h.elim
theorem chkTg_pr {N : List Str} {sc : Scope} {i j : Nat} {x : Expr} (h : chkTg N sc (.pr i j) x = true) : ∃ a b k pos, x = .Tuple [a, b] k pos ∧ chkL N sc i a = true ∧ chkL N sc j b = true ∧ i ≠ j := by
  unfold chkTg at h
  dsimp only at h
  split at h
  · simp only [Bool.and_eq_true, decide_eq_true_eq] at h
    exact ⟨_, _, _, _, rfl, h.1.1, h.1.2, h.2⟩
  · cases h
/-- a target takes what is handed to it -/
theorem tg_take {K : PySem.W.Frag} {bc : Addr} {en : En} {δ : Env} {b : Ob} {σ σw : L2.St} {R H : Hp} (I : ER K bc en δ b σ R H) {tg : Tg} (hw : ∀ u v, setTg tg u v σw = setTg tg u v σ) {x : V} {d : D} {P : Env → Prop} (r : Rp K R x d) (w : binds tg d δ P) {Q : L2.St → Hp → Prop}
    (k : ∀ σ' δ' u v, σ' = setTg tg u v σw → ER K bc en δ' b σ' R H → P δ' → Q σ' H) : gTg K tg x σw H Q := by
  cases tg with
  | nm i =>
    refine k _ _ x x rfl ?_ w
    have e : σw.set i (some x) = σ.set i (some x) := hw x x
    rw [e]
    exact I.setV r
  | pr i j =>
    obtain ⟨d1, d2, rfl, w⟩ := binds_pr w
    cases r with
    | tup h1 rs =>
      cases rs with
      | cons r1 rs =>
        cases rs with
        | cons r2 rs =>
          cases rs
          refine ⟨_, _, rfl, sub_sqT I.sub h1, rfl, _, _, rfl, _, [], rfl, rfl, ?_⟩
          refine k _ _ _ _ rfl ?_ w
          rename_i v1 v2
          have e : (σw.set i (some v1)).set j (some v2) = (σ.set i (some v1)).set j (some v2) := hw v1 v2
          rw [e]
          exact (I.setV r1).setV r2
section
variable {S : Sy} {en : En} {N : List Str} {sc : Scope} {X : Cx} {W : WX} {lv : Nat} {x y z tg : Expr} {e a c : Ex}
theorem pg_L (C : CK S N sc X W lv) (hfn : ∀ s, isLoc sc s = true → X.fn s = true ∨ X.env.scope.names.lookup s = some .local) {i : Nat} (h : chkL N sc i x = true) : PG X x (gName i) := by
  unfold chkL at h
  split at h
  · rename_i s pos
    simp only [Bool.and_eq_true, decide_eq_true_eq] at h
    exact pg_name (by rw [C.n]; exact C.nd) (by rw [C.n]; exact h.1) (C.loc h.2) (hfn s h.2)
  · cases h
theorem pg_T (C : CK S N sc X W lv) (hfn : ∀ s, isLoc sc s = true → X.fn s = true ∨ X.env.scope.names.lookup s = some .local) {t : Tg} (h : chkTg N sc t x = true) : PG X x (gTg X.K t) := by
  cases t with
  | nm i => exact pg_L C hfn h
  | pr i j =>
    obtain ⟨a, b, k, pos, rfl, h1, h2, h3⟩ := chkTg_pr h
    have n1 : ∀ (y : Expr) (ys : List Expr) (k : Nat), chkL N sc k y = true → (assignEach (y :: ys) X.env).map (·.2) = assign y X.env :: (assignEach ys X.env).map (·.2) := fun y ys k hy => by
      unfold chkL at hy
      split at hy
      · rfl
      · cases hy
    have ln : (assignEach [a, b] X.env).length = 2 ∧ (assignEach [a, b] X.env).findIdx? (·.1) = none := by
      unfold chkL at h1 h2
      split at h1
      · split at h2
        · exact ⟨rfl, rfl⟩
        · cases h2
      · cases h1
    exact pg_tup C.calm (pgs_cons (pg_L C hfn h1) (pgs_cons (pg_L C hfn h2) pgs_nil (n1 _ _ _ h2)) (n1 _ _ _ h1)) ln.1 ln.2
/-- the context of a comprehension's block -/
theorem CK.blk (C : CK S N sc X W lv) (s : Shared) (H : Hp) (scope : Scope) (Cc : Addr) (cl : List (Str × Addr)) (fp : List Addr) : CK S N (relS scope sc) (X.blk s H scope (compEnvC scope cl Cc X.env) fp) (fun _ _ _ _ => False) lv where
  fs := C.fs
  calm := C.calm
  n := C.n
  nd := C.nd
  sc := by
    show relS scope X.env.scope = relS scope sc
    rw [C.sc]
  tk := takes0
  room := C.room
theorem lookup_relS_loc {scope sc : Scope} {s : Str} {k : NameKind} (hk : k ≠ .free) (h : scope.names.lookup s = some k) : (relS scope sc).names.lookup s = some k := lookup_relS_keep hk h
/-- a comprehension's target in its block -/
theorem pg_blk (C : CK S N sc X W lv) {scope : Scope} {t : Tg} (h : chkTg N (relS scope sc) t x = true) (ho : ownTg N scope t = true) (s : Shared) (H : Hp) (Cc : Addr) (cl : List (Str × Addr)) (fp : List Addr) :
    PG (X.blk s H scope (compEnvC scope cl Cc X.env) fp) x (gTg X.K t) := by
  have CB := C.blk s H scope Cc cl fp
  have one : ∀ (i : Nat) (y : Expr), (N.getD i (Str.ofString "?"), i) ∈ ownOf N t → chkL N (relS scope sc) i y = true → PG (X.blk s H scope (compEnvC scope cl Cc X.env) fp) y (gName i) := fun i y hm hy => by
    unfold chkL at hy
    split at hy
    · rename_i nm pos
      simp only [Bool.and_eq_true, decide_eq_true_eq] at hy
      have en : N.getD i (Str.ofString "?") = nm := by
        rw [List.getD_eq_getElem?_getD, hy.1]
        rfl
      unfold ownTg at ho
      have q := List.all_eq_true.mp ho _ hm
      simp only at q
      rw [en] at q
      refine pg_name (X := X.blk s H scope (compEnvC scope cl Cc X.env) fp) (by rw [CB.n]; exact CB.nd) (by rw [CB.n]; exact hy.1) (CB.loc hy.2) ?_
      cases hl : scope.names.lookup nm with
      | none => rw [hl] at q; cases q
      | some k =>
        rw [hl] at q
        cases k with
        | «local» =>
          refine .inr ?_
          show (relS scope X.env.scope).names.lookup nm = some .local
          exact lookup_relS_loc (by intro e; cases e) hl
        | cell =>
          refine .inl ?_
          show (scope.names.lookup nm == some .cell) = true
          rw [hl]
          rfl
        | free => cases q
        | globalExplicit => cases q
        | globalImplicit => cases q
    · cases hy
  cases t with
  | nm i => exact one i x (by unfold ownOf; exact List.mem_cons_self) h
  | pr i j =>
    obtain ⟨a, b, k, pos, rfl, h1, h2, h3⟩ := chkTg_pr h
    have n1 : ∀ (y : Expr) (ys : List Expr) (k : Nat) (env : PySem.Env), chkL N (relS scope sc) k y = true → (assignEach (y :: ys) env).map (·.2) = assign y env :: (assignEach ys env).map (·.2) := fun y ys k env hy => by
      unfold chkL at hy
      split at hy
      · rfl
      · cases hy
    have ln : ∀ env, (assignEach [a, b] env).length = 2 ∧ (assignEach [a, b] env).findIdx? (·.1) = none := fun env => by
      unfold chkL at h1 h2
      split at h1
      · split at h2
        · exact ⟨rfl, rfl⟩
        · cases h2
      · cases h1
    exact pg_tup (X := X.blk s H scope (compEnvC scope cl Cc X.env) fp) CB.calm (pgs_cons (one i a (by unfold ownOf; simp) h1) (pgs_cons (one j b (by unfold ownOf; simp) h2) pgs_nil (n1 _ _ _ _ h2)) (n1 _ _ _ _ h1)) (ln _).1 (ln _).2
/-- a comprehension's test -/
def GC (K : PySem.W.Frag) (S : Sy) (en : En) (c : Ox) : TT := fun σ H Q => ∃ δ b R Q', ER K S.bc en δ b σ R H ∧ wC S.G c δ b Q' ∧
  ∀ t b' R' H', ER K S.bc en δ b' σ R' H' → Stp S.bc b b' R H R' H' → Q' t b' → Q t H'
theorem gC_no : PTs X [] (GC X.K S en .no) := ⟨fun pins s σ H Q I0 ⟨δ, b, R, Q', I, w, k⟩ => pts_nil.run pins s σ H Q I0 (k true b R H I (Stp.refl I.sub) w)⟩
theorem gC_so (h : PT X y (GT X.K S en (fun _ _ _ _ => False) e)) : PTs X [y] (GC X.K S en (.so e)) := ⟨fun pins s σ H Q I0 ⟨δ, b, R, Q', I, w, k⟩ => (pts_one h).run pins s σ H Q I0
  ⟨δ, b, R, Q', fun _ => False, I, w, k, fun _ _ _ _ _ z => z⟩⟩
theorem wipe_set {tg : Tg} {u v : V} {σ : L2.St} (h : ∀ i j, tg = .pr i j → i ≠ j) : wipe (setTg tg u v (wipe σ ((ownOf N tg).map (·.2)))) ((ownOf N tg).map (·.2)) = wipe σ ((ownOf N tg).map (·.2)) ∧ setTg tg u v (wipe σ ((ownOf N tg).map (·.2))) = setTg tg u v σ := by
  cases tg with
  | nm i =>
    refine ⟨?_, ?_⟩
    · show ((σ.set i none).set i (some u)).set i none = σ.set i none
      rw [List.set_set, List.set_set]
    · show (σ.set i none).set i (some u) = σ.set i (some u)
      rw [List.set_set]
  | pr i j =>
    have ne := h i j rfl
    refine ⟨?_, ?_⟩
    · show (((((σ.set j none).set i none).set i (some u)).set j (some v)).set j none).set i none = (σ.set j none).set i none
      rw [List.set_set, List.set_set, List.set_comm none (some u) ne.symm, List.set_set, List.set_comm (some u) none ne, List.set_set]
    · show (((σ.set j none).set i none).set i (some u)).set j (some v) = (σ.set i (some u)).set j (some v)
      rw [List.set_set, List.set_comm none (some u) ne.symm, List.set_set]
theorem own_ne {t : Tg} (h : chkTg N sc t x = true) : ∀ i j, t = .pr i j → i ≠ j := fun i j e => by
  subst e
  obtain ⟨_, _, _, _, _, _, _, h3⟩ := chkTg_pr h
  exact h3
/-- THE LOOP of a comprehension -/
theorem comp_core {δ : Env} {σ : L2.St} {R0 H R1 H1 : Hp} {b0 b1 : Ob} {t : Tg} {J : It} {xs : List D} {A : Hp → Prop} {Q : VK} {Qf : List D → Ob → Prop} {step : D → Ob → (Option D → Ob → Prop) → Prop} {D0 : Addr} {cn : Ox} {elt : Ex}
    (hne : ∀ i j, t = .pr i j → i ≠ j) (I : ER X.K S.bc en δ b0 σ R0 H) (J1 : ER X.K S.bc en δ b1 σ R1 H1) (stp : Stp S.bc b0 b1 R0 H R1 H1) (wk : Wk X.K J R1 A xs) (hA : ∀ b R Hc, Stp S.bc b0 b R0 H R Hc → A Hc) (hlen : xs.length ≤ 1000000) (nD : H1 D0 = none)
    (w : wmap step xs [] b1 Qf)
    (hs : ∀ d b (Rr : Option D → Ob → Prop), step d b Rr → binds t d δ fun δ2 => wC S.G cn δ2 b fun tt b3 => if tt then wE S.G elt δ2 b3 (fun d b4 => Rr (some d) b4) (fun _ => False) else Rr none b3)
    (fin : ∀ b acc vacc R Hc, ER X.K S.bc en δ b σ R Hc → Stp S.bc b0 b R0 H R Hc → H D0 = none → R D0 = none → ¬ Bo S.bc b Hc D0 → Hc D0 = some (.lst vacc) → Rps X.K R vacc acc → Qf acc b → Q (.ref D0) Hc) :
    ∃ Wi : Nat → Nat → Hp → Prop, (∃ m, Wi 0 m (upd H1 D0 (.lst []))) ∧ ∀ i m Hc, Wi i m Hc →
      (J.stop i Hc ∧ Q (.ref D0) Hc) ∨ (J.go i Hc ∧ ∃ Nx : Hp → Prop, (∀ H', Nx H' → ∃ m', m' < m ∧ Wi (i + 1) m' H') ∧ ∀ x H', J.yld i Hc x H' → gTg X.K t x (wipe σ ((ownOf N t).map (·.2))) H' fun σ2 H2 =>
        wipe σ2 ((ownOf N t).map (·.2)) = wipe σ ((ownOf N t).map (·.2)) ∧ GC X.K S en cn σ2 H2 fun b H3 =>
          if b = true then GE X.K S en (fun _ _ _ _ => False) elt σ2 H3 fun y H4 => ∃ acc, H4 D0 = some (.lst acc) ∧ acc.length < sizeLine ∧ Nx (upd H4 D0 (.lst (acc ++ [y]))) else Nx H3) := by
  obtain ⟨s1, s2, n0, nr1, nb1⟩ := new_lst (o := .lst []) I J1 stp nD
  have f0 := I.freN n0
  refine ⟨fun i m Hc => m = xs.length - i ∧ i ≤ xs.length ∧ ∃ b R acc vacc, ER X.K S.bc en δ b σ R Hc ∧ Stp S.bc b0 b R0 H R Hc ∧ Sub R1 R ∧ Hc D0 = some (.lst vacc) ∧ Rps X.K R vacc acc ∧ acc.length ≤ i ∧ R D0 = none ∧ ¬ Bo S.bc b Hc D0 ∧ wmap step (xs.drop i) acc b Qf,
    ⟨xs.length, rfl, Nat.zero_le _, b1, R1, [], [], s1, s2, Sub.refl _, upd_same, .nil, Nat.zero_le _, nr1, nb1, w⟩, ?_⟩
  rintro i m Hc ⟨rfl, hi, b, R, acc, vacc, Ic, sc', sR, hD, ra, la, nr, nb, wm⟩
  by_cases hlt : i < xs.length
  · have e0 : xs[i]? = some xs[i] := List.getElem?_eq_getElem hlt
    obtain ⟨g1, g2⟩ := wk.go i R Hc xs[i] sR Ic.sub (hA b R Hc sc') e0
    rw [List.drop_eq_getElem_cons hlt] at wm
    have wm' : step xs[i] b fun o b' => wmap step (xs.drop (i + 1)) (match o with | some d => acc ++ [d] | none => acc) b' Qf := wm
    have wb := hs _ _ _ wm'
    refine .inr ⟨g1, fun H' => ∃ b R acc vacc, ER X.K S.bc en δ b σ R H' ∧ Stp S.bc b0 b R0 H R H' ∧ Sub R1 R ∧ H' D0 = some (.lst vacc) ∧ Rps X.K R vacc acc ∧ acc.length ≤ i + 1 ∧ R D0 = none ∧ ¬ Bo S.bc b H' D0 ∧ wmap step (xs.drop (i + 1)) acc b Qf, fun H' ⟨b, R, acc, vacc, h⟩ => ⟨xs.length - (i + 1), by omega, rfl, hlt, b, R, acc, vacc, h⟩, fun x H' hy => ?_⟩
    obtain ⟨R', g, rx⟩ := g2 x H' hy
    have I2 := Ic.grow g
    have st2 := Ic.stpG g
    have hD2 := g.hh _ _ hD
    refine tg_take I2 (fun u v => (wipe_set hne).2) rx wb fun σ2 δ2 u v eσ I3 wc => ⟨by rw [eσ]; exact (wipe_set hne).1, ?_⟩
    refine ⟨δ2, b, R', _, I3, wc, fun tt b3 R3 H3 I4 st4 q => ?_⟩
    have noBo : ∀ {bb : Ob} {RR HH : Hp}, Stp S.bc b bb R Hc RR HH → ¬ Bo S.bc bb HH D0 ∧ HH D0 = some (.lst vacc) ∧ RR D0 = none := fun {bb RR HH} sx =>
      ⟨(fun z => by
        rcases sx.bo D0 z with z | z
        · exact nb z
        · rw [hD] at z
          cases z), sx.out _ _ hD nb, (sx.old _ _ hD).trans nr⟩
    -- the block's frame forgotten
    have outer : ∀ {bb : Ob} {RR HH : Hp} {δx : Env} {σx : L2.St}, ER X.K S.bc en δx bb σx RR HH → Stp S.bc b bb R Hc RR HH → ER X.K S.bc en δ bb σ RR HH := fun {bb RR HH δx σx} Ix sx => Ic.go sx Ix.sub fun p B e => by
      obtain ⟨a, r, _⟩ := Ix.bd p B e
      exact ⟨a, r⟩
    cases tt with
    | false =>
      refine iteF ?_
      have q' : wmap step (xs.drop (i + 1)) acc b3 Qf := by simpa using q
      have sx := st2.trans st4
      obtain ⟨z1, z2, z3⟩ := noBo sx
      exact ⟨b3, R3, acc, vacc, outer I4 sx, sc'.trans sx, sR.trans sx.rr, z2, ra.mono sx.rr, by omega, z3, z1, q'⟩
    | true =>
      refine iteT ?_
      have q' : wE S.G elt δ2 b3 (fun d b4 => wmap step (xs.drop (i + 1)) (acc ++ [d]) b4 Qf) (fun _ => False) := by simpa using q
      refine ⟨δ2, b3, R3, _, _, I4, q', fun d b4 v R4 H4 I5 st5 r5 q5 => ?_, fun _ _ _ _ _ z => z⟩
      have sx := (st2.trans st4).trans st5.st
      obtain ⟨z1, z2, z3⟩ := noBo sx
      have J5 := outer I5 sx
      have lv : vacc.length ≤ i := by rw [ra.length]; exact la
      have ff : Fre S.bc en δ b4 σ R4 H4 D0 := ⟨f0.h0, z3, f0.no, z1⟩
      refine ⟨vacc, z2, big_lt (by omega), b4, R4, acc ++ [d], vacc ++ [v], J5.loose ff ⟨_, z2⟩ ⟨_, rfl⟩, (sc'.trans sx).loose n0, sR.trans sx.rr, upd_same, (ra.mono sx.rr).append (Rps.one r5), ?_, z3, fun z => ?_, q5⟩
      · rw [List.length_append, List.length_singleton]
        omega
      · obtain ⟨p', B, a', e, h, hq⟩ := z
        by_cases hz : p' = D0
        · subst hz
          rw [upd_same] at h
          cases h
        · rw [upd_ne hz] at h
          exact z1 ⟨p', B, a', e, h, hq⟩
  · have e : i = xs.length := by omega
    subst e
    rw [List.drop_length] at wm
    exact .inl ⟨wk.stop R Hc sR Ic.sub (hA b R Hc sc'), fin b acc vacc R Hc Ic sc' n0 nr nb hD ra wm⟩
theorem comp_read (C : CK S N sc X W lv) {t : Tg} {src : Src} {cn : Ox} {elt : Ex} {ifs : List Expr} {scope : Scope} {it : Expr} (ht : chkTg N (relS scope sc) t tg = true) (σ : L2.St) (H : Hp) (Q : VK) (h : GF X.K S en W (.comp t src cn elt) σ H Q) :
    tLc (GI X.K S en W src) (gTg X.K t) (GC X.K S en cn) (GE X.K S en (fun _ _ _ _ => False) elt) ((ownOf N t).map (·.2)) σ H Q := by
  obtain ⟨δ, b, R, Q', E', I, w, k, ke⟩ := h
  refine ⟨δ, b, R, _, E', I, w, fun xs b1 J R1 H1 J1 st wk q D0 nD => ?_, ke⟩
  exact comp_core (own_ne ht) I J1 st wk (fun _ _ _ _ => trivial) q.1 nD q.2 (fun d b Rr h => h) fun b acc vacc R Hc Ic sc' n0 nr nb hD ra qf => k acc b D0 vacc R Hc Ic sc' n0 nr nb hD ra qf
theorem compR_read (C : CK S N sc X W lv) {v i : Nat} {elt : Ex} {scope : Scope} {it : Expr} (ht : chkTg N (relS scope sc) (.nm i) tg = true) (hf : chkF S.M N sc .rows v it = true) (σ : L2.St) (H : Hp) (Q : VK) (h : GF X.K S en W (.compR v i elt) σ H Q) :
    tLc (iList X.K (tFld X.K (tVar v) (flName .rows))) (gTg X.K (.nm i)) (GC X.K S en .no) (GE X.K S en (fun _ _ _ _ => False) elt) ((ownOf N (.nm i)).map (·.2)) σ H Q := by
  obtain ⟨δ, b, R, Q', E', I, w, k, ke⟩ := h
  obtain ⟨p, B, hg, hb, w⟩ := theB_inv w
  obtain ⟨a, xs, h1, h2, _, h3⟩ := fld_read C hf I hg hb
  unfold tLc iList
  refine h3 _ ?_
  refine ⟨_, rfl, ⟨xs, SqL.of h1⟩, fun D0 nD => ?_⟩
  have wk : Wk X.K (Itl X.K (fadr a .rows)) R (fun H => H (fadr a .rows) = some (.lst xs)) B.rows := by
    refine ⟨fun i R' H' d s1 s2 hH e => ?_, fun R' H' s1 s2 hH => ⟨xs, SqL.of hH, by rw [h2.length]; exact Nat.le_refl _⟩⟩
    obtain ⟨v, e1, e2⟩ := Rps.get (i := i) (d := d) h2 e
    refine ⟨⟨xs, v, SqL.of hH, e1⟩, fun x H'' hx => ?_⟩
    obtain ⟨eH, hx⟩ := hx
    subst eH
    have e3 := hx xs (SqL.of hH)
    rw [e1] at e3
    cases e3
    exact ⟨R', Grow.refl s2, e2.mono s1⟩
  refine comp_core (own_ne ht) I.forget I.forget (Stp.refl I.sub) wk (fun b' R' Hc st => st.out _ _ h1 fun ⟨_, _, _, e, _⟩ => nomatch e) w.1 nD w.2 (fun d b Rr h => by simpa [binds, wC] using h) fun b' acc vacc R' Hc Ic sc' n0 nr nb hD ra qf => ?_
  have g : Grow R H R' Hc := ⟨sc'.rr, Ic.sub, fun q o e => sc'.out q o e (fun z => by
    obtain ⟨_, _, _, e', _⟩ := z
    cases e'), sc'.old⟩
  refine k acc b D0 vacc R' Hc (I.grow g) (I.stpG g) n0 nr (fun z => ?_) hD ra qf
  obtain ⟨p', B', a', e, hp, hq⟩ := z
  obtain ⟨a2, r2, _⟩ := I.bd p' B' e
  have e2 := bdFs_inj (Option.some.inj ((g.hh _ _ r2.ins).symm.trans hp))
  subst e2
  obtain ⟨o, ho⟩ := r2.tr D0 hq
  rw [n0] at ho
  cases ho
end
end LK

/-! All expressions. -/
namespace LK
open PySem PySem.Spec PyProof.Rows L2

section
variable {S : Sy} {en : En} {N : List Str} {sc : Scope} {X : Cx} {W : WX} {lv : Nat}
theorem mem_blt {s : Str} (h : bltNames.contains s = true) : s ∈ bltNames := by simpa using h
/-- a built-in of one argument -/
theorem call1 (C : CK S N sc X W lv) {o : O1} {s : Str} {f y : Expr} {pos : Pos} {u : Value} {e : Ex} (hb : bltNames.contains s = true) (hv : bootBuiltins s = some u) (hc : (∃ id, u = .builtin id) ∨ ∃ T, u = .type T) (r : CallR X u (c1 X.K o)) (ho : ordX y = true)
    (hg : glName sc s f = true) (h : PE X y (GE X.K S en W e)) : PE X (.Call f [y] [] pos) (GE X.K S en W (.op1 o e)) := by
  obtain ⟨p0, rfl, h1, h2, h3⟩ := gln C hg
  have hs := star_of ho [] X.env
  have hm := blt_none C (mem_blt hb)
  refine gE_op1 ?_
  rcases hc with ⟨id, rfl⟩ | ⟨T, rfl⟩
  · exact peImp (pe_callB r h1 hm hv (pa_cons h pa_nil hs) h3 h2 hs rfl) fun σ H Q q => q.mono fun v H q => ⟨v, rfl, q⟩
  · exact peImp (pe_callTy r h1 hm hv (pa_cons h pa_nil hs) h3 h2 hs rfl) fun σ H Q q => q.mono fun v H q => ⟨v, rfl, q⟩
theorem call2 (C : CK S N sc X W lv) {o : O2} {s : Str} {f y z : Expr} {pos : Pos} {id : String} {e c : Ex} (hb : bltNames.contains s = true) (hv : bootBuiltins s = some (.builtin id)) (r : CallR X (.builtin id) (c2 X.K o)) (ho : ordX y = true) (ho2 : ordX z = true)
    (hg : glName sc s f = true) (h : PE X y (GE X.K S en W e)) (h' : PE X z (GE X.K S en W c)) : PE X (.Call f [y, z] [] pos) (GE X.K S en W (.op2 o e c)) := by
  obtain ⟨p0, rfl, h1, h2, h3⟩ := gln C hg
  have hs2 := star_of ho2 [] X.env
  have hs := star_of ho [z] X.env
  have hm := blt_none C (mem_blt hb)
  exact gE_op2 (peImp (pe_callB r h1 hm hv (pa_cons h (pa_cons h' pa_nil hs2) hs) h3 h2 hs (by rw [hs2]; rfl)) fun σ H Q q => q.mono fun v H q => q.mono fun v2 H q => ⟨v, v2, rfl, q⟩)
theorem callIs (C : CK S N sc X W lv) {o : O1} {t : Str} {T : String} {f y z : Expr} {pos : Pos} {e : Ex} (hb : bltNames.contains t = true) (hv : bootBuiltins t = some (.type T)) (r : CallR X (.builtin "isinstance") (rIs X.K o T)) (ho : ordX y = true)
    (hg : glName sc "isinstance" f = true) (hz : glName sc t z = true) (h : PE X y (GE X.K S en W e)) : PE X (.Call f [y, z] [] pos) (GE X.K S en W (.op1 o e)) := by
  obtain ⟨p0, rfl, h1, h2, h3⟩ := gln C hg
  obtain ⟨p1, rfl, h4, h5, h6⟩ := gln C hz
  have hs2 : starEach [.Name t p1] X.env = (false, eval (.Name t p1) X.env) :: starEach [] X.env := rfl
  have hs := star_of ho [.Name t p1] X.env
  have hm := blt_none C (mem_blt hb)
  exact gE_op1 (peImp (pe_callB r h1 (blt_none C (by decide +kernel)) (by decide +kernel) (pa_cons h (pa_cons (pe_bltn (v := .ty T) h4 hm hv rfl h6 h5) pa_nil hs2) hs) h3 h2 hs (by rw [hs2]; rfl)) fun σ H Q q => q.mono fun v H q => ⟨v, rfl, q⟩)
theorem PI_cast {tg x : Expr} {t t' : TI} (h : PI X tg x t) (e : t = t') : PI X tg x t' := e ▸ h
theorem call1f (C : CK S N sc X W lv) {f y : Expr} {pos : Pos} {e : Ex} (ho : ordX y = true)
    (hg : glName sc "list" f = true) (h : PE X y (GE X.K S en W e)) : PE X (.Call f [y] [] pos) (GF X.K S en W (.op1 .lstO e)) := by
  obtain ⟨p0, rfl, h1, h2, h3⟩ := gln C hg
  have hs := star_of ho [] X.env
  have hm : X.mg "list" = none := blt_none C (mem_blt (by decide +kernel))
  exact gF_op1 (peImp (pe_callTy b_lstf h1 hm (by decide +kernel) (pa_cons h pa_nil hs) h3 h2 hs rfl) fun σ H Q q => q.mono fun v H q => ⟨v, rfl, q⟩)
end
/-- what is told of a text -/
structure EOK (S : Sy) (en : En) (N : List Str) (e : Ex) : Prop where
  ge : ∀ {sc : Scope} {X : Cx} {W : WX} {lv : Nat} {x : Expr}, CK S N sc X W lv → chkE S.M N sc e x = true → PE X x (GE X.K S en W e)
  gf : ∀ {sc : Scope} {X : Cx} {W : WX} {lv : Nat} {x : Expr}, CK S N sc X W lv → chkE S.M N sc e x = true → fresh S.G.fr e = true → PE X x (GF X.K S en W e)
  gt : ∀ {sc : Scope} {X : Cx} {W : WX} {lv : Nat} {x : Expr}, CK S N sc X W lv → chkE S.M N sc e x = true → PT X x (GT X.K S en W e) ∧ ∀ op vs p, x = .BoolOp op vs p → PW X x (GT X.K S en W e)
/-- an expression whose test is its value's truth -/
def valX : Expr → Bool
  | .BoolOp .. => false
  | .UnaryOp .Not _ _ => false
  | .Compare .. => false
  | .IfExp .. => false
  | _ => true
theorem truth_of {x : Expr} (h : valX x = true) (env : PySem.Env) (whole : Sem Value) : isTrue x env whole = (do let v ← whole; standAt x.pos; holding [v] (truthy v)) := by
  cases x <;> first | rfl | exact Bool.noConfusion h | skip
  rename_i op _ _
  cases op <;> first | rfl | exact Bool.noConfusion h
section
variable {S : Sy} {en : En} {N : List Str}
/-- most: the test by the value -/
theorem EOK.mk1 {e : Ex} (hf : fresh S.G.fr e = false) (h : ∀ {sc : Scope} {X : Cx} {W : WX} {lv : Nat} {x : Expr}, CK S N sc X W lv → chkE S.M N sc e x = true → PE X x (GE X.K S en W e))
    (hv : ∀ {sc : Scope} {x : Expr}, chkE S.M N sc e x = true → valX x = true) : EOK S en N e where
  ge := h
  gf := fun _ _ z => by rw [hf] at z; cases z
  gt := fun C hc => ⟨gT_val (h C hc) (truth_of (hv hc) _), fun op vs p e => by
    subst e
    have := hv hc
    cases this⟩
theorem EOK.mkF {e : Ex} (hq : quiet e = false) (h : ∀ {sc : Scope} {X : Cx} {W : WX} {lv : Nat} {x : Expr}, CK S N sc X W lv → chkE S.M N sc e x = true → PE X x (GF X.K S en W e))
    (hv : ∀ {sc : Scope} {x : Expr}, chkE S.M N sc e x = true → valX x = true) : EOK S en N e where
  ge := fun C hc => ge_of_gf hq (h C hc)
  gf := fun C hc _ => h C hc
  gt := fun C hc => ⟨gT_val (ge_of_gf hq (h C hc)) (truth_of (hv hc) _), fun op vs p e => by
    subst e
    have := hv hc
    cases this⟩
def Op1Inv (M : Nms) (N : List Str) (sc : Scope) (o : O1) (a : Ex) (x : Expr) : Prop :=
    (o = .neg ∧ ∃ y pos, x = .UnaryOp .USub y pos ∧ chkE M N sc a y = true) ∨ (o = .isN ∧ ∃ y k p pos, x = .Compare y [.Is] [.Constant .none k p] pos ∧ chkE M N sc a y = true) ∨
    (o = .notN ∧ ∃ y k p pos, x = .Compare y [.IsNot] [.Constant .none k p] pos ∧ chkE M N sc a y = true) ∨ (∃ s f y pos, blt1 o = some s ∧ x = .Call f [y] [] pos ∧ glName sc s f = true ∧ chkE M N sc a y = true) ∨
    ∃ t f y z pos, isiT o = some t ∧ x = .Call f [y, z] [] pos ∧ glName sc "isinstance" f = true ∧ glName sc t z = true ∧ chkE M N sc a y = true
theorem op1_call {M : Nms} {sc : Scope} {o : O1} {a : Ex} {x : Expr} {s : Str} (hs : blt1 o = some s) (h : (match x with
        | .Call f [y] [] _ => glName sc s f && chkE M N sc a y
        | _ => false) = true) : Op1Inv M N sc o a x := by
  split at h
  · simp only [Bool.and_eq_true] at h
    exact .inr (.inr (.inr (.inl ⟨_, _, _, _, hs, rfl, h.1, h.2⟩)))
  · cases h
theorem op1_is {M : Nms} {sc : Scope} {o : O1} {a : Ex} {x : Expr} {t : Str} (hs : isiT o = some t) (h : (match x with
          | .Call f [y, z] [] _ => glName sc "isinstance" f && glName sc t z && chkE M N sc a y
          | _ => false) = true) : Op1Inv M N sc o a x := by
  split at h
  · simp only [Bool.and_eq_true] at h
    exact .inr (.inr (.inr (.inr ⟨_, _, _, _, _, hs, rfl, h.1.1, h.1.2, h.2⟩)))
  · cases h
theorem chkE_op1 {M : Nms} {sc : Scope} {o : O1} {a : Ex} {x : Expr} (h : chkE M N sc (.op1 o a) x = true) : Op1Inv M N sc o a x := by
  have nn : ∀ z : Expr, isNone z = true → ∃ k p, z = .Constant .none k p := fun z hz => by
    unfold isNone at hz
    split at hz
    · exact ⟨_, _, rfl⟩
    · cases hz
  cases o with
  | neg =>
    unfold chkE at h
    dsimp only at h
    split at h
    · exact .inl ⟨rfl, _, _, rfl, h⟩
    · cases h
  | isN =>
    unfold chkE at h
    dsimp only at h
    split at h
    · simp only [Bool.and_eq_true] at h
      obtain ⟨k, p, rfl⟩ := nn _ h.2
      exact .inr (.inl ⟨rfl, _, _, _, _, rfl, h.1⟩)
    · cases h
  | notN =>
    unfold chkE at h
    dsimp only at h
    split at h
    · simp only [Bool.and_eq_true] at h
      obtain ⟨k, p, rfl⟩ := nn _ h.2
      exact .inr (.inr (.inl ⟨rfl, _, _, _, _, rfl, h.1⟩))
    · cases h
  | abs => unfold chkE at h; exact op1_call rfl h
  | len => unfold chkE at h; exact op1_call rfl h
  | tupO => unfold chkE at h; exact op1_call rfl h
  | lstO => unfold chkE at h; exact op1_call rfl h
  | intO => unfold chkE at h; exact op1_call rfl h
  | strO => unfold chkE at h; exact op1_call rfl h
  | sum => unfold chkE at h; exact op1_call rfl h
  | isInt => unfold chkE at h; exact op1_is rfl h
  | isBool => unfold chkE at h; exact op1_is rfl h
  | isTup => unfold chkE at h; exact op1_is rfl h
  | isLst => unfold chkE at h; exact op1_is rfl h
  | isStr => unfold chkE at h; exact op1_is rfl h
def Op2Inv (M : Nms) (N : List Str) (sc : Scope) (o : O2) (a b : Ex) (x : Expr) : Prop :=
  (∃ op y z pos, binT o = some op ∧ x = .BinOp y op z pos ∧ chkE M N sc a y = true ∧ chkE M N sc b z = true) ∨ (∃ op y z pos, cmpT o = some op ∧ x = .Compare y [op] [z] pos ∧ chkE M N sc a y = true ∧ chkE M N sc b z = true) ∨
  (∃ s f y z pos, blt2 o = some s ∧ x = .Call f [y, z] [] pos ∧ glName sc s f = true ∧ chkE M N sc a y = true ∧ chkE M N sc b z = true) ∨ (o = .ix ∧ ∃ y z pos, x = .Subscript y z pos ∧ chkE M N sc a y = true ∧ chkE M N sc b z = true)
theorem op2_bin {M : Nms} {sc : Scope} {o : O2} {a b : Ex} {x : Expr} {op : Operator} (hs : binT o = some op) (h : (match x with
      | .BinOp y op' z _ => decide (op' = op) && chkE M N sc a y && chkE M N sc b z
      | _ => false) = true) : Op2Inv M N sc o a b x := by
  split at h
  · simp only [Bool.and_eq_true, decide_eq_true_eq] at h
    obtain ⟨⟨e, h1⟩, h2⟩ := h
    subst e
    exact .inl ⟨_, _, _, _, hs, rfl, h1, h2⟩
  · cases h
theorem op2_cmp {M : Nms} {sc : Scope} {o : O2} {a b : Ex} {x : Expr} {op : CmpOp} (hs : cmpT o = some op) (h : (match x with
        | .Compare y [op'] [z] _ => decide (op' = op) && chkE M N sc a y && chkE M N sc b z
        | _ => false) = true) : Op2Inv M N sc o a b x := by
  split at h
  · simp only [Bool.and_eq_true, decide_eq_true_eq] at h
    obtain ⟨⟨e, h1⟩, h2⟩ := h
    subst e
    exact .inr (.inl ⟨_, _, _, _, hs, rfl, h1, h2⟩)
  · cases h
theorem op2_blt {M : Nms} {sc : Scope} {o : O2} {a b : Ex} {x : Expr} {s : Str} (hs : blt2 o = some s) (h : (match x with
          | .Call f [y, z] [] _ => glName sc s f && chkE M N sc a y && chkE M N sc b z
          | _ => false) = true) : Op2Inv M N sc o a b x := by
  split at h
  · simp only [Bool.and_eq_true] at h
    exact .inr (.inr (.inl ⟨_, _, _, _, _, hs, rfl, h.1.1, h.1.2, h.2⟩))
  · cases h
theorem chkE_op2 {M : Nms} {sc : Scope} {o : O2} {a b : Ex} {x : Expr} (h : chkE M N sc (.op2 o a b) x = true) : Op2Inv M N sc o a b x := by
  cases o with
  | add => unfold chkE at h; exact op2_bin rfl h
  | sub => unfold chkE at h; exact op2_bin rfl h
  | mul => unfold chkE at h; exact op2_bin rfl h
  | fdiv => unfold chkE at h; exact op2_bin rfl h
  | mod => unfold chkE at h; exact op2_bin rfl h
  | pow => unfold chkE at h; exact op2_bin rfl h
  | cat => unfold chkE at h; exact op2_bin rfl h
  | tcat => unfold chkE at h; exact op2_bin rfl h
  | scat => unfold chkE at h; exact op2_bin rfl h
  | lt => unfold chkE at h; exact op2_cmp rfl h
  | le => unfold chkE at h; exact op2_cmp rfl h
  | gt => unfold chkE at h; exact op2_cmp rfl h
  | ge => unfold chkE at h; exact op2_cmp rfl h
  | eq => unfold chkE at h; exact op2_cmp rfl h
  | ne => unfold chkE at h; exact op2_cmp rfl h
  | inD => unfold chkE at h; exact op2_cmp rfl h
  | ninD => unfold chkE at h; exact op2_cmp rfl h
  | ninS => unfold chkE at h; exact op2_cmp rfl h
  | max => unfold chkE at h; exact op2_blt rfl h
  | min => unfold chkE at h; exact op2_blt rfl h
  | ix =>
    unfold chkE at h
    dsimp only [binT, cmpT, blt2] at h
    split at h
    · simp only [Bool.and_eq_true] at h
      exact .inr (.inr (.inr ⟨rfl, _, _, _, rfl, h.1, h.2⟩))
    · cases h
end
end LK

/-! All expressions, the recursion. -/
namespace LK
open PySem PySem.Spec PyProof.Rows L2
section
variable {S : Sy} {en : En} {N : List Str} {sc : Scope} {X : Cx} {W : WX} {lv : Nat}
theorem gE_isN {y : Expr} {e : Ex} {k : Nat} {p pos : Pos} (h : PE X y (GE X.K S en W e)) : PE X (.Compare y [.Is] [.Constant .none k p] pos) (GE X.K S en W (.op1 .isN e)) :=
  gE_op1 (peImp (pe_cmpR op_isN h pe_non (by rfl)) fun σ H Q q => q.mono fun v H q => ⟨rfl, r1_isN q⟩)
theorem gE_notN {y : Expr} {e : Ex} {k : Nat} {p pos : Pos} (h : PE X y (GE X.K S en W e)) : PE X (.Compare y [.IsNot] [.Constant .none k p] pos) (GE X.K S en W (.op1 .notN e)) :=
  gE_op1 (peImp (pe_cmpR op_notN h pe_non (by rfl)) fun σ H Q q => q.mono fun v H q => ⟨rfl, r1_notN q⟩)
theorem gT_isN {y : Expr} {e : Ex} {k : Nat} {p pos : Pos} (h : PE X y (GE X.K S en W e)) : PT X (.Compare y [.Is] [.Constant .none k p] pos) (GT X.K S en W (.op1 .isN e)) :=
  ptImp (pt_cmpR op_isN h pe_non (by rfl)) fun σ H Q ⟨δ, b, R, Q', E', I, w, k, ke⟩ => ⟨δ, b, R, fun d b' => w1 .isN d fun d => wtest d fun t => Q' t b', E', I, w, fun d b1 v R1 H1 J st r q => by
    have e : decide (v = .non) = isNonD d := by cases r <;> rfl
    refine ⟨rfl, _, rfl, ?_⟩
    rw [e]
    exact k _ b1 R1 H1 J st.st (by cases d <;> exact q), ke⟩
theorem gT_notN {y : Expr} {e : Ex} {k : Nat} {p pos : Pos} (h : PE X y (GE X.K S en W e)) : PT X (.Compare y [.IsNot] [.Constant .none k p] pos) (GT X.K S en W (.op1 .notN e)) :=
  ptImp (pt_cmpR op_notN h pe_non (by rfl)) fun σ H Q ⟨δ, b, R, Q', E', I, w, k, ke⟩ => ⟨δ, b, R, fun d b' => w1 .notN d fun d => wtest d fun t => Q' t b', E', I, w, fun d b1 v R1 H1 J st r q => by
    have e : decide (v = .non) = isNonD d := by cases r <;> rfl
    refine ⟨rfl, _, rfl, ?_⟩
    rw [e]
    exact k _ b1 R1 H1 J st.st (by cases d <;> exact q), ke⟩
theorem EOK.isN {e : Ex} (h : EOK S en N e) : EOK S en N (.op1 .isN e) where
  ge := fun C hc => by
    rcases chkE_op1 hc with ⟨e, _⟩ | ⟨_, y, k, p, pos, rfl, h1⟩ | ⟨e, _⟩ | ⟨_, _, _, _, e, _⟩ | ⟨_, _, _, _, _, e, _⟩
    · cases e
    · exact gE_isN (h.ge C h1)
    · cases e
    · cases e
    · cases e
  gf := fun _ _ z => by cases z
  gt := fun C hc => by
    rcases chkE_op1 hc with ⟨e, _⟩ | ⟨_, y, k, p, pos, rfl, h1⟩ | ⟨e, _⟩ | ⟨_, _, _, _, e, _⟩ | ⟨_, _, _, _, _, e, _⟩
    · cases e
    · exact ⟨gT_isN (h.ge C h1), fun _ _ _ z => by cases z⟩
    · cases e
    · cases e
    · cases e
theorem EOK.notN {e : Ex} (h : EOK S en N e) : EOK S en N (.op1 .notN e) where
  ge := fun C hc => by
    rcases chkE_op1 hc with ⟨e, _⟩ | ⟨e, _⟩ | ⟨_, y, k, p, pos, rfl, h1⟩ | ⟨_, _, _, _, e, _⟩ | ⟨_, _, _, _, _, e, _⟩
    · cases e
    · cases e
    · exact gE_notN (h.ge C h1)
    · cases e
    · cases e
  gf := fun _ _ z => by cases z
  gt := fun C hc => by
    rcases chkE_op1 hc with ⟨e, _⟩ | ⟨e, _⟩ | ⟨_, y, k, p, pos, rfl, h1⟩ | ⟨_, _, _, _, e, _⟩ | ⟨_, _, _, _, _, e, _⟩
    · cases e
    · cases e
    · exact ⟨gT_notN (h.ge C h1), fun _ _ _ z => by cases z⟩
    · cases e
    · cases e
theorem EOK.neg {e : Ex} (h : EOK S en N e) : EOK S en N (.op1 .neg e) := .mk1 rfl (fun C hc => by
    rcases chkE_op1 hc with ⟨_, y, pos, rfl, h1⟩ | ⟨e, _⟩ | ⟨e, _⟩ | ⟨_, _, _, _, e, _⟩ | ⟨_, _, _, _, _, e, _⟩
    · exact gE_op1 (pe_un b_neg (h.ge C h1))
    · cases e
    · cases e
    · cases e
    · cases e) fun hc => by
    rcases chkE_op1 hc with ⟨_, y, pos, rfl, h1⟩ | ⟨e, _⟩ | ⟨e, _⟩ | ⟨_, _, _, _, e, _⟩ | ⟨_, _, _, _, _, e, _⟩
    · rfl
    · cases e
    · cases e
    · cases e
    · cases e
theorem isi_none {o : O1} {s : Str} (h : blt1 o = some s) : isiT o = none := by
  cases o <;> first | rfl | cases h
/-- a built-in's call, by its facts -/
theorem EOK.blt {e : Ex} {o : O1} {s : Str} {u : Value} (h : EOK S en N e) (hs : blt1 o = some s) (hf : fresh S.G.fr (.op1 o e) = false) (hb : bltNames.contains s = true) (hv : bootBuiltins s = some u) (hc : (∃ id, u = .builtin id) ∨ ∃ T, u = .type T) (r : ∀ {X : Cx}, X.calm = true → CallR X u (c1 X.K o)) : EOK S en N (.op1 o e) := .mk1 hf
    (fun C hc' => by
    rcases chkE_op1 hc' with ⟨e, _⟩ | ⟨e, _⟩ | ⟨e, _⟩ | ⟨s', f, y, pos, e, rfl, h1, h2⟩ | ⟨_, _, _, _, _, e, _⟩
    · subst e; cases hs
    · subst e; cases hs
    · subst e; cases hs
    · rw [hs] at e
      cases e
      exact call1 C hb hv hc (r C.calm) (chkE_ord h2) h1 (h.ge C h2)
    · rw [isi_none hs] at e; cases e) fun hc' => by
    rcases chkE_op1 hc' with ⟨e, _⟩ | ⟨e, _⟩ | ⟨e, _⟩ | ⟨s', f, y, pos, e, rfl, h1, h2⟩ | ⟨_, _, _, _, _, e, _⟩
    · subst e; cases hs
    · subst e; cases hs
    · subst e; cases hs
    · rfl
    · rw [isi_none hs] at e; cases e
theorem EOK.isi {e : Ex} {o : O1} {t : Str} {T : String} (h : EOK S en N e) (hs : isiT o = some t) (hn : blt1 o = none) (hf : fresh S.G.fr (.op1 o e) = false) (hb : bltNames.contains t = true) (hv : bootBuiltins t = some (.type T)) (r : ∀ {X : Cx}, CallR X (.builtin "isinstance") (rIs X.K o T)) : EOK S en N (.op1 o e) := .mk1 hf
    (fun C hc' => by
    rcases chkE_op1 hc' with ⟨e, _⟩ | ⟨e, _⟩ | ⟨e, _⟩ | ⟨s', f, y, pos, e, rfl, h1, h2⟩ | ⟨t', f, y, z, pos, e, rfl, h1, h2, h3⟩
    · subst e; cases hs
    · subst e; cases hs
    · subst e; cases hs
    · rw [hn] at e; cases e
    · rw [hs] at e
      cases e
      exact callIs C hb hv r (chkE_ord h3) h1 h2 (h.ge C h3)) fun hc' => by
    rcases chkE_op1 hc' with ⟨e, _⟩ | ⟨e, _⟩ | ⟨e, _⟩ | ⟨s', f, y, pos, e, rfl, h1, h2⟩ | ⟨t', f, y, z, pos, e, rfl, h1, h2, h3⟩
    · subst e; cases hs
    · subst e; cases hs
    · subst e; cases hs
    · rfl
    · rfl
theorem EOK.lstO {e : Ex} (h : EOK S en N e) : EOK S en N (.op1 .lstO e) := .mkF rfl
    (fun C hc' => by
    rcases chkE_op1 hc' with ⟨e, _⟩ | ⟨e, _⟩ | ⟨e, _⟩ | ⟨s', f, y, pos, e, rfl, h1, h2⟩ | ⟨t', f, y, z, pos, e, rfl, h1, h2, h3⟩
    · cases e
    · cases e
    · cases e
    · cases e
      exact call1f C (chkE_ord h2) h1 (h.ge C h2)
    · cases e) fun hc' => by
    rcases chkE_op1 hc' with ⟨e, _⟩ | ⟨e, _⟩ | ⟨e, _⟩ | ⟨s', f, y, pos, e, rfl, h1, h2⟩ | ⟨t', f, y, z, pos, e, rfl, h1, h2, h3⟩
    · cases e
    · cases e
    · cases e
    · rfl
    · cases e
theorem EOK.op1 {e : Ex} (h : EOK S en N e) : ∀ o, EOK S en N (.op1 o e)
  | .neg => h.neg
  | .isN => h.isN
  | .notN => h.notN
  | .lstO => h.lstO
  | .abs => h.blt (s := "abs") rfl rfl (by decide +kernel) (u := .builtin "abs") (by decide +kernel) (.inl ⟨_, rfl⟩) fun _ => b_abs
  | .len => h.blt (s := "len") rfl rfl (by decide +kernel) (u := .builtin "len") (by decide +kernel) (.inl ⟨_, rfl⟩) fun _ => b_len
  | .tupO => h.blt (s := "tuple") rfl rfl (by decide +kernel) (u := .type "tuple") (by decide +kernel) (.inr ⟨_, rfl⟩) fun _ => b_tup
  | .intO => h.blt (s := "int") rfl rfl (by decide +kernel) (u := .type "int") (by decide +kernel) (.inr ⟨_, rfl⟩) fun _ => b_int
  | .strO => h.blt (s := "str") rfl rfl (by decide +kernel) (u := .type "str") (by decide +kernel) (.inr ⟨_, rfl⟩) fun _ => b_str
  | .sum => h.blt (s := "sum") rfl rfl (by decide +kernel) (u := .builtin "sum") (by decide +kernel) (.inl ⟨_, rfl⟩) fun hc => b_sum hc
  | .isInt => h.isi (t := "int") rfl rfl rfl (by decide +kernel) (T := "int") (by decide +kernel) b_isInt
  | .isBool => h.isi (t := "bool") rfl rfl rfl (by decide +kernel) (T := "bool") (by decide +kernel) b_isBool
  | .isTup => h.isi (t := "tuple") rfl rfl rfl (by decide +kernel) (T := "tuple") (by decide +kernel) b_isTup
  | .isLst => h.isi (t := "list") rfl rfl rfl (by decide +kernel) (T := "list") (by decide +kernel) b_isLst
  | .isStr => h.isi (t := "str") rfl rfl rfl (by decide +kernel) (T := "str") (by decide +kernel) b_isStr
/-! ### two data -/
theorem EOK.bin {a c : Ex} {o : O2} {op : Operator} (h : EOK S en N a) (h' : EOK S en N c) (hs : binT o = some op) (hf : fresh S.G.fr (.op2 o a c) = false) (hn : cmpT o = none ∧ blt2 o = none ∧ o ≠ .ix) (r : ∀ {X : Cx}, OpR X (binaryOp op) (r2 X.K o)) : EOK S en N (.op2 o a c) := .mk1 hf
    (fun C hc' => by
    rcases chkE_op2 hc' with ⟨op', y, z, pos, e, rfl, h1, h2⟩ | ⟨_, _, _, _, e, _⟩ | ⟨_, _, _, _, _, e, _⟩ | ⟨e, _⟩
    · rw [hs] at e
      cases e
      exact gE_op2 (pe_op r (h.ge C h1) (h'.ge C h2))
    · rw [hn.1] at e; cases e
    · rw [hn.2.1] at e; cases e
    · exact absurd e hn.2.2) fun hc' => by
    rcases chkE_op2 hc' with ⟨op', y, z, pos, e, rfl, h1, h2⟩ | ⟨_, _, _, _, e, _⟩ | ⟨_, _, _, _, _, e, _⟩ | ⟨e, _⟩
    · rfl
    · rw [hn.1] at e; cases e
    · rw [hn.2.1] at e; cases e
    · exact absurd e hn.2.2
theorem EOK.cmp {a c : Ex} {o : O2} {op : CmpOp} (h : EOK S en N a) (h' : EOK S en N c) (hs : cmpT o = some op) (hf : fresh S.G.fr (.op2 o a c) = false) (hn : binT o = none ∧ blt2 o = none ∧ o ≠ .ix) (r : ∀ {X : Cx}, X.A.units + 65 < cLine → OpR X (compareOp op) (r2 X.K o)) : EOK S en N (.op2 o a c) where
  ge := fun C hc' => by
    rcases chkE_op2 hc' with ⟨_, _, _, _, e, _⟩ | ⟨op', y, z, pos, e, rfl, h1, h2⟩ | ⟨_, _, _, _, _, e, _⟩ | ⟨e, _⟩
    · rw [hn.1] at e; cases e
    · rw [hs] at e
      cases e
      exact gE_op2 (pe_cmpR (r (by have := C.room.un; omega)) (h.ge C h1) (h'.ge C h2) (marks_of (chkE_ord h2) _))
    · rw [hn.2.1] at e; cases e
    · exact absurd e hn.2.2
  gf := fun _ _ z => by rw [hf] at z; cases z
  gt := fun C hc' => by
    rcases chkE_op2 hc' with ⟨_, _, _, _, e, _⟩ | ⟨op', y, z, pos, e, rfl, h1, h2⟩ | ⟨_, _, _, _, _, e, _⟩ | ⟨e, _⟩
    · rw [hn.1] at e; cases e
    · rw [hs] at e
      cases e
      exact ⟨gT_cmp (r (by have := C.room.un; omega)) (h.ge C h1) (h'.ge C h2) (marks_of (chkE_ord h2) _), fun _ _ _ z => by cases z⟩
    · rw [hn.2.1] at e; cases e
    · exact absurd e hn.2.2
theorem EOK.op2 {a c : Ex} (h : EOK S en N a) (h' : EOK S en N c) : ∀ o, EOK S en N (.op2 o a c)
  | .add => h.bin h' rfl rfl ⟨rfl, rfl, fun z => nomatch z⟩ b_add
  | .sub => h.bin h' rfl rfl ⟨rfl, rfl, fun z => nomatch z⟩ b_sub
  | .mul => h.bin h' rfl rfl ⟨rfl, rfl, fun z => nomatch z⟩ b_mul
  | .fdiv => h.bin h' rfl rfl ⟨rfl, rfl, fun z => nomatch z⟩ b_fdiv
  | .mod => h.bin h' rfl rfl ⟨rfl, rfl, fun z => nomatch z⟩ b_mod
  | .pow => h.bin h' rfl rfl ⟨rfl, rfl, fun z => nomatch z⟩ b_pow
  | .tcat => h.bin h' rfl rfl ⟨rfl, rfl, fun z => nomatch z⟩ b_tcat
  | .scat => h.bin h' rfl rfl ⟨rfl, rfl, fun z => nomatch z⟩ b_scat
  | .lt => h.cmp h' rfl rfl ⟨rfl, rfl, fun z => nomatch z⟩ fun _ => b_lt
  | .le => h.cmp h' rfl rfl ⟨rfl, rfl, fun z => nomatch z⟩ fun _ => b_le
  | .gt => h.cmp h' rfl rfl ⟨rfl, rfl, fun z => nomatch z⟩ fun _ => b_gt
  | .ge => h.cmp h' rfl rfl ⟨rfl, rfl, fun z => nomatch z⟩ fun _ => b_ge
  | .eq => h.cmp h' rfl rfl ⟨rfl, rfl, fun z => nomatch z⟩ fun hu => b_eq (by omega)
  | .ne => h.cmp h' rfl rfl ⟨rfl, rfl, fun z => nomatch z⟩ fun hu => b_ne (by omega)
  | .inD => h.cmp h' rfl rfl ⟨rfl, rfl, fun z => nomatch z⟩ fun hu => b_inD hu
  | .ninD => h.cmp h' rfl rfl ⟨rfl, rfl, fun z => nomatch z⟩ fun hu => b_ninD hu
  | .ninS => h.cmp h' rfl rfl ⟨rfl, rfl, fun z => nomatch z⟩ fun _ => b_ninS
  | .cat => .mkF (by simp [quiet]) (fun C hc' => by
    rcases chkE_op2 hc' with ⟨op', y, z, pos, e, rfl, h1, h2⟩ | ⟨_, _, _, _, e, _⟩ | ⟨_, _, _, _, _, e, _⟩ | ⟨e, _⟩
    · cases e
      exact gF_op2 (pe_op b_catf (h.ge C h1) (h'.ge C h2))
    · cases e
    · cases e
    · cases e) fun hc' => by
    rcases chkE_op2 hc' with ⟨op', y, z, pos, e, rfl, h1, h2⟩ | ⟨_, _, _, _, e, _⟩ | ⟨_, _, _, _, _, e, _⟩ | ⟨e, _⟩
    · rfl
    · cases e
    · cases e
    · cases e
  | .ix => .mk1 rfl (fun C hc' => by
    rcases chkE_op2 hc' with ⟨_, _, _, _, e, _⟩ | ⟨_, _, _, _, e, _⟩ | ⟨_, _, _, _, _, e, _⟩ | ⟨_, y, z, pos, rfl, h1, h2⟩
    · cases e
    · cases e
    · cases e
    · exact gE_op2 (pe_ix b_ix (h.ge C h1) (h'.ge C h2) (plainIx_of (chkE_ord h2)))) fun hc' => by
    rcases chkE_op2 hc' with ⟨_, _, _, _, e, _⟩ | ⟨_, _, _, _, e, _⟩ | ⟨_, _, _, _, _, e, _⟩ | ⟨_, y, z, pos, rfl, h1, h2⟩
    · cases e
    · cases e
    · cases e
    · rfl
  | .max => .mk1 rfl (fun C hc' => by
    rcases chkE_op2 hc' with ⟨_, _, _, _, e, _⟩ | ⟨_, _, _, _, e, _⟩ | ⟨s, f, y, z, pos, e, rfl, hg, h1, h2⟩ | ⟨e, _⟩
    · cases e
    · cases e
    · cases e
      exact call2 C (by decide +kernel) (by decide +kernel) (b_max C.calm) (chkE_ord h1) (chkE_ord h2) hg (h.ge C h1) (h'.ge C h2)
    · cases e) fun hc' => by
    rcases chkE_op2 hc' with ⟨_, _, _, _, e, _⟩ | ⟨_, _, _, _, e, _⟩ | ⟨s, f, y, z, pos, e, rfl, hg, h1, h2⟩ | ⟨e, _⟩
    · cases e
    · cases e
    · rfl
    · cases e
  | .min => .mk1 rfl (fun C hc' => by
    rcases chkE_op2 hc' with ⟨_, _, _, _, e, _⟩ | ⟨_, _, _, _, e, _⟩ | ⟨s, f, y, z, pos, e, rfl, hg, h1, h2⟩ | ⟨e, _⟩
    · cases e
    · cases e
    · cases e
      exact call2 C (by decide +kernel) (by decide +kernel) (b_min C.calm) (chkE_ord h1) (chkE_ord h2) hg (h.ge C h1) (h'.ge C h2)
    · cases e) fun hc' => by
    rcases chkE_op2 hc' with ⟨_, _, _, _, e, _⟩ | ⟨_, _, _, _, e, _⟩ | ⟨s, f, y, z, pos, e, rfl, hg, h1, h2⟩ | ⟨e, _⟩
    · cases e
    · cases e
    · rfl
    · cases e
end
end LK

/-! An own list lent to an expression; slices that are new; a text's methods; a text's signs. -/
namespace LK
open PySem PySem.Spec PyProof.Rows L2
/-- a heap without one address -/
def hole (R : Hp) (p : Addr) : Hp := fun a => if a = p then none else R a
theorem hole_ne {R : Hp} {p a : Addr} (h : a ≠ p) : hole R p a = R a := by unfold hole; rw [if_neg h]
theorem hole_eq {R : Hp} {p : Addr} : hole R p p = none := by unfold hole; rw [if_pos rfl]
section
variable {K : PySem.W.Frag} {R : Hp} {p : Addr} {xs : List V}
mutual
theorem Rp.holed (hp : R p = some (.lst xs)) (hh : ∃ q r, xs = .ref q :: r) : ∀ {v : V} (d : D), flatD d = true → Rp K R v d → Rp K (hole R p) v d
  | _, .non, _, .non => .non
  | _, .bl _, _, .bl _ => .bl _
  | _, .int _, _, .int _ => .int _
  | _, .str _, _, .str _ => .str _
  | _, .tup ds, h, .tup (a := a) (xs := ys) q r => by
    refine .tup ?_ (Rps.holed hp hh ds h r)
    rcases q with (q | ⟨o, q⟩) | q
    · refine .inl (.inl ?_)
      rw [hole_ne (fun e => by rw [e, hp] at q; cases q)]
      exact q
    · refine .inl (.inr ⟨o, ?_⟩)
      rw [hole_ne (fun e => by rw [e, hp] at q; cases q)]
      exact q
    · exact .inr q
  | _, .lst ds, h, .lst (a := a) (xs := ys) q r => by
    have h' : headInt ds = true ∧ flatDs ds = true := by simpa [flatD] using h
    refine .lst ?_ (Rps.holed hp hh ds h'.2 r)
    rw [hole_ne ?_]
    · exact q
    · intro e
      rw [e, hp] at q
      cases q
      obtain ⟨q0, r0, e2⟩ := hh
      rw [e2] at r
      cases r with
      | cons r1 r2 =>
        rename_i d ds
        cases r1 <;> simp [headInt] at h'
  | _, .scr _, h, _ => by simp [flatD] at h
  | _, .brd _, h, _ => by simp [flatD] at h
theorem Rps.holed (hp : R p = some (.lst xs)) (hh : ∃ q r, xs = .ref q :: r) : ∀ {vs : List V} (ds : List D), flatDs ds = true → Rps K R vs ds → Rps K (hole R p) vs ds
  | _, [], _, .nil => .nil
  | _, d :: ds, h, .cons r rs => by
    have h' : flatD d = true ∧ flatDs ds = true := by simpa [flatDs] using h
    exact .cons (Rp.holed hp hh d h'.1 r) (Rps.holed hp hh ds h'.2 rs)
end
theorem Rp.lend {v : V} {d : D} {ds : List D} (hp : R p = some (.lst xs)) (hx : Rps K R xs ds) (h : lendOk ds d = true) (r : Rp K R v d) : Rp K (hole R p) v d := by
  unfold lendOk at h
  rw [Bool.or_eq_true, Bool.and_eq_true] at h
  rcases h with h | ⟨h1, h2⟩
  · cases r <;> first | (simp [atomD] at h; done) | constructor
  · refine r.holed hp ?_ d h1
    cases hx with
    | nil => simp [headTup] at h2
    | cons r1 r2 =>
      rename_i d0 ds0
      cases d0 <;> first | (simp [headTup] at h2; done) | skip
      cases r1
      exact ⟨_, _, rfl⟩
end
section
variable {S : Sy} {en : En} {N : List Str} {sc : Scope} {X : Cx} {W : WX} {lv : Nat} {x y z : Expr} {e a c : Ex}
/-- back from where an own list was lent -/
theorem unlend {K : PySem.W.Frag} {bc : Addr} {δ : Env} {b : Ob} {σ : L2.St} {R H R' H' : Hp} {p : Addr} {xs : List V} (I : ER K bc en δ b σ R H) (hp : H p = some (.lst xs)) (nr : R p = none) (J : Sub R' H') (st : Stp bc b none (upd R p (.lst xs)) H R' H') :
    ER K bc en δ none σ (hole R' p) H' ∧ Stp bc b none R H (hole R' p) H' := by
  have s : Stp bc b none R H (hole R' p) H' := by
    refine ⟨fun q o e => ?_, fun q o e => ?_, st.dom, st.out, st.bo⟩
    · have hq : q ≠ p := fun z => by rw [z, nr] at e; cases e
      rw [hole_ne hq]
      exact st.rr q o (by rw [upd_ne hq]; exact e)
    · by_cases hq : q = p
      · rw [hq, hole_eq, nr]
      · rw [hole_ne hq, st.old q o e, upd_ne hq]
  exact ⟨I.go s (fun q o e => by
    by_cases hq : q = p
    · rw [hq, hole_eq] at e; cases e
    · rw [hole_ne hq] at e
      exact J q o e) (fun _ _ e => nomatch e), s⟩
theorem gE_lend {i : Nat} (h : PE X x (GE X.K S en W e)) : PE X x (GE X.K S en W (.lend i e)) := peImp h fun σ H Q ⟨δ, b, R, Q', E', I, w, k, ke⟩ => by
  have w' : (match LK.gt δ i with
    | .ow ds => wE S.G e (LK.st δ i (.vl (.lst ds))) b (fun d b1 => lendOk ds d = true ∧ b1 = none ∧ Q' d b1) (fun _ => False)
    | _ => False) := w
  cases hg : LK.gt δ i with
  | no => rw [hg] at w'; exact w'.elim
  | vl _ => rw [hg] at w'; exact w'.elim
  | ow ds =>
    rw [hg] at w'
    obtain ⟨p, xs, e1, nr, hp, rs, J⟩ := I.freeze hg
    refine ⟨_, b, _, _, fun _ => False, J, w', fun d b1 v R1 H1 J1 st r ⟨lo, eb, q⟩ => ?_, fun _ _ _ _ _ z => z.elim⟩
    subst eb
    obtain ⟨I2, s2⟩ := unlend I hp nr J1.sub st.st
    exact k d none v _ H1 I2 (StQ.off s2 rfl) (r.lend (st.st.rr _ _ upd_same) (rs.mono st.st.rr) lo) q
theorem gT_lend {i : Nat} (h : PT X x (GT X.K S en W e)) : PT X x (GT X.K S en W (.lend i e)) := ptImp h fun σ H Q ⟨δ, b, R, Q', E', I, w, k, ke⟩ => by
  have w' : (match LK.gt δ i with
    | .ow ds => wE S.G e (LK.st δ i (.vl (.lst ds))) b (fun d b1 => lendOk ds d = true ∧ b1 = none ∧ wtest d fun t => Q' t b1) (fun _ => False)
    | _ => False) := w
  cases hg : LK.gt δ i with
  | no => rw [hg] at w'; exact w'.elim
  | vl _ => rw [hg] at w'; exact w'.elim
  | ow ds =>
    rw [hg] at w'
    obtain ⟨p, xs, e1, nr, hp, rs, J⟩ := I.freeze hg
    have ee : (fun (d : D) (b1 : Ob) => lendOk ds d = true ∧ b1 = none ∧ wtest d fun t => Q' t b1) = fun d b1 => wtest d fun t => b1 = none ∧ Q' t b1 := by
      funext d b1
      apply propext
      cases d <;> simp [wtest, lendOk, atomD]
    have w2 : wE S.G e (LK.st δ i (.vl (.lst ds))) b (fun d b1 => wtest d fun t => b1 = none ∧ Q' t b1) (fun _ => False) := by
      rw [← ee]
      exact w'
    refine ⟨_, b, _, fun t b1 => b1 = none ∧ Q' t b1, fun _ => False, J, w2, fun t b1 R1 H1 J1 st ⟨eb, q⟩ => ?_, fun _ _ _ _ _ z => z.elim⟩
    subst eb
    obtain ⟨I2, s2⟩ := unlend I hp nr J1.sub st
    exact k t none _ H1 I2 s2 q
/-- a slice of a list, a new list -/
theorem gF_slF {lo hi : Ox} {l h : Option Expr} {p2 pos : Pos} (ha : PE X y (GE X.K S en W a)) (hl : PO X l (GO X.K S en W lo)) (hh : PO X h (GO X.K S en W hi)) : PE X (.Subscript y (.Slice l h none p2) pos) (GF X.K S en W (.slF a lo hi)) :=
  peImp (pe_slice sl_list ha hl hh) fun σ H Q ⟨δ, b, R, Q', E', I, w, k, ke⟩ => ⟨δ, b, R, fun x b1 => wO S.G lo δ b1 (fun l b2 => wO S.G hi δ b2 (fun h b3 => wslF x l h fun z => Q' z b3) E') E', E', I, w, fun d b1 v R1 H1 J st r q =>
    ⟨δ, b1, R1, fun l b2 => wO S.G hi δ b2 (fun h b3 => wslF d l h fun z => Q' z b3) E', E', J, q, fun l b2 R2 H2 J2 st2 q2 =>
      ⟨δ, b2, R2, fun h b3 => wslF d l h fun z => Q' z b3, E', J2, q2, fun u b3 R3 H3 J3 st3 q3 => by
        cases d <;> first | exact False.elim q3 | skip
        cases r with
        | @lst p xs ds h1 rs =>
          have h3 := (st3.st.rr _ _ (st2.st.rr _ _ h1))
          refine ⟨_, xs, rfl, SqL.of (J3.sub _ _ h3), fun r hr => ?_⟩
          obtain ⟨J4, st4, n0, nr, nb⟩ := new_lst (o := .lst (cutV xs l u)) I J3 ((st.st.trans st2.st).trans st3.st) hr
          exact k _ b3 r _ R3 _ J4 st4 n0 nr nb upd_same (((rs.cut l u).mono st2.st.rr).mono st3.st.rr) q3, ke⟩, ke⟩, ke⟩
/-! ### a text's methods -/
theorem mt_base {y : Expr} (h : mtBase y = true) (s : Str) (env : PySem.Env) (whole : Sem Value) : attributeBase y s env whole = whole := by
  cases y <;> first | rfl | exact Bool.noConfusion h
/-- what a method's rule wants, on data -/
def rMt (K : PySem.W.Frag) (m : Mt) : V → List V → Hp → VK → Prop := fun x xs H Q => ∃ R dx y dy Q', Sub R H ∧ xs = [y] ∧ Rp K R x dx ∧ Rp K R y dy ∧ wmt m dx dy Q' ∧ ∀ z v R' H', Grow R H R' H' → Rp K R' v z → Q' z → Q v H'
theorem Rps.strs {K : PySem.W.Frag} {R : Hp} : ∀ {ys : List Str} {vs : List V}, Rps K R vs (ys.map .str) → vs = ys.map V.str
  | [], _, .nil => rfl
  | y :: ys, _, .cons (.str _) r => by rw [List.map_cons, Rps.strs r]
theorem Rps.of_strs {K : PySem.W.Frag} {R : Hp} : ∀ ys : List Str, Rps K R (ys.map V.str) (ys.map .str)
  | [] => .nil
  | y :: ys => .cons (.str y) (Rps.of_strs ys)
theorem mtImp {X : Cx} {id : String} {r r' : V → List V → Hp → VK → Prop} (h : MtR X id r) (i : ∀ x xs H Q, r' x xs H Q → r x xs H Q) : MtR X id r' := fun pins s σ H x xs v us Q I rx rs q => h pins s σ H x xs v us Q I rx rs (i x xs H Q q)
theorem m_startswith : MtR X "str.startswith" (rMt X.K .startswith) := mtImp mt_startswith fun x xs H Q ⟨R, dx, y, dy, Q', hs, e, hx, hy, hq, k⟩ => by
  subst e
  cases dx <;> cases dy <;> first | exact False.elim hq | skip
  cases hx
  cases hy
  exact ⟨_, _, rfl, rfl, k _ _ R H (Grow.refl hs) (.bl _) hq⟩
theorem m_find : MtR X "str.find" (rMt X.K .find) := mtImp mt_find fun x xs H Q ⟨R, dx, y, dy, Q', hs, e, hx, hy, hq, k⟩ => by
  subst e
  cases dx <;> cases dy <;> first | exact False.elim hq | skip
  cases hx
  cases hy
  exact ⟨_, _, rfl, rfl, k _ _ R H (Grow.refl hs) (.int _) hq⟩
theorem m_partition : MtR X "str.partition" (rMt X.K .partition) := mtImp mt_partition fun x xs H Q ⟨R, dx, y, dy, Q', hs, e, hx, hy, hq, k⟩ => by
  subst e
  cases dx <;> cases dy <;> first | exact False.elim hq | skip
  cases hx
  cases hy
  obtain ⟨h1, h2, hq⟩ := hq
  exact ⟨_, _, rfl, rfl, h1, Nat.le_trans h2 (by decide), fun p n => k _ _ _ _ (Grow.new (o := .tup _) hs n) (.tup (SqT.of upd_same) (.cons (.str _) (.cons (.str _) (.cons (.str _) .nil)))) hq⟩
theorem m_join : MtR X "str.join" (rMt X.K .join) := mtImp mt_join fun x xs H Q ⟨R, dx, y, dy, Q', hs, e, hx, hy, hq, k⟩ => by
  subst e
  cases dx <;> cases dy <;> first | exact False.elim hq | skip
  cases hx
  obtain ⟨ys, rfl, h2, hq⟩ := hq
  cases hy with
  | @lst p vs ds h1 rs =>
    have e := Rps.strs rs
    subst e
    exact ⟨_, p, ys, rfl, rfl, .inl (SqL.of (hs _ _ h1)), h2, k _ _ R H (Grow.refl hs) (.str _) hq⟩
/-- what split's rule wants: a new list -/
def rMtF (K : PySem.W.Frag) : V → List V → Hp → VK → Prop := fun x xs H Q => ∃ R dx y dy Q', Sub R H ∧ xs = [y] ∧ Rp K R x dx ∧ Rp K R y dy ∧ wmt .split dx dy Q' ∧ ∀ (ys : List Str) p, H p = none → Q' (.lst (ys.map .str)) → Q (.ref p) (upd H p (.lst (ys.map V.str)))
theorem m_split : MtR X "str.split" (rMtF X.K) := mtImp mt_split fun x xs H Q ⟨R, dx, y, dy, Q', hs, e, hx, hy, hq, k⟩ => by
  subst e
  cases dx <;> cases dy <;> first | exact False.elim hq | skip
  cases hx
  cases hy
  obtain ⟨h1, h2, hq⟩ := hq
  exact ⟨_, _, rfl, rfl, h1, Nat.le_trans h2 (by decide), fun p n => k _ p n hq⟩
theorem wmt_str {m : Mt} {x y : D} {Q : D → Prop} (h : wmt m x y Q) : ∃ s, x = .str s := by
  cases m <;> cases x <;> first | exact ⟨_, rfl⟩ | exact False.elim h
theorem gE_mth {m : Mt} {ap cp : Pos} {id : String} (hr : MtR X id (rMt X.K m)) (slot : Slot "str" (mtName m) id) (hty : typeOf (.builtin id) = pure (.type "method_descriptor")) (hb : mtBase y = true) (hl : (ap.endLine == cp.line) = true) (hz : ordX z = true)
    (ha : PE X y (GE X.K S en W a)) (hc : PE X z (GE X.K S en W c)) : PE X (.Call (.Attribute y (mtName m) ap) [z] [] cp) (GE X.K S en W (.mth m a c)) := by
  have hs := star_of hz [] X.env
  refine peImp (pe_bm PySem.F.plainAttrs_str slot hty hr ha (pa_cons hc pa_nil hs) (mt_base hb _ _ _) (by rw [hs]; rfl) hl hs rfl) fun σ H Q ⟨δ, b, R, Q', E', I, w, k, ke⟩ => ?_
  refine ⟨δ, b, R, _, E', I, w, fun d b1 v R1 H1 J st r ⟨hs, q⟩ => ?_, ke⟩
  have hv : ∃ s, v = .str s := by
    cases r <;> first | exact ⟨_, rfl⟩ | exact Bool.noConfusion hs
  obtain ⟨s0, rfl⟩ := hv
  refine ⟨rfl, δ, b1, R1, _, E', J, q, fun d2 b2 v2 R2 H2 J2 st2 r2 q2 => ?_, ke⟩
  exact ⟨R2, d, v2, d2, _, J2.sub, rfl, r.mono st2.st.rr, r2, q2, fun z' v' R' H' g r' q' => by
    obtain ⟨J3, st3⟩ := stp_growS J2 (st.st.trans st2.st) g
    exact k z' b2 v' R' H' J3 (StQ.off st3 rfl) r' q'⟩
theorem gF_split {ap cp : Pos} (hb : mtBase y = true) (hl : (ap.endLine == cp.line) = true) (hz : ordX z = true)
    (ha : PE X y (GE X.K S en W a)) (hc : PE X z (GE X.K S en W c)) : PE X (.Call (.Attribute y "split" ap) [z] [] cp) (GF X.K S en W (.mth .split a c)) := by
  have hs := star_of hz [] X.env
  refine peImp (pe_bm PySem.F.plainAttrs_str PySem.F.slot_str_split PySem.F.type_str_split m_split ha (pa_cons hc pa_nil hs) (mt_base hb _ _ _) (by rw [hs]; rfl) hl hs rfl) fun σ H Q ⟨δ, b, R, Q', E', I, w, k, ke⟩ => ?_
  refine ⟨δ, b, R, _, E', I, w, fun d b1 v R1 H1 J st r ⟨hs, q⟩ => ?_, ke⟩
  have hv : ∃ s, v = .str s := by
    cases r <;> first | exact ⟨_, rfl⟩ | exact Bool.noConfusion hs
  obtain ⟨s0, rfl⟩ := hv
  refine ⟨rfl, δ, b1, R1, _, E', J, q, fun d2 b2 v2 R2 H2 J2 st2 r2 q2 => ?_, ke⟩
  refine ⟨R2, d, v2, d2, _, J2.sub, rfl, r.mono st2.st.rr, r2, q2, fun ys p n q' => ?_⟩
  obtain ⟨J4, st4, n0, nr, nb⟩ := new_lst (o := .lst (ys.map V.str)) I J2 (st.st.trans st2.st) n
  exact k _ b2 p _ R2 _ J4 st4 n0 nr nb upd_same (Rps.of_strs ys) q'
/-- a text's signs, walked -/
theorem Wk.chs {K : PySem.W.Frag} {R1 : Hp} (s : Str) : Wk K (Its s) R1 (fun _ => True) (s.cps.toList.map fun c => .str ⟨#[c]⟩) where
  go := fun i R H d h1 h2 _ e => by
    rw [List.getElem?_map] at e
    cases hc : s.cps.toList[i]? with
    | none => rw [hc] at e; cases e
    | some c =>
      rw [hc] at e
      cases e
      have hi : i < s.cps.size := by
        obtain ⟨h, _⟩ := List.getElem?_eq_some_iff.mp hc
        simpa using h
      have e2 : s.cps[i]? = some c := by
        rw [← hc]
        simp
      refine ⟨hi, fun x H' ⟨eH, c', e1, ex⟩ => ?_⟩
      subst eH
      rw [e2] at e1
      cases e1
      subst ex
      exact ⟨R, Grow.refl h2, .str _⟩
  stop := fun R H _ _ _ => by
    show s.cps.size ≤ _
    simp
theorem gI_chs {tg : Expr} (he : PE X y (GE X.K S en W e)) : PI X tg y (GI X.K S en W (.chs e)) :=
  piImp (pi_str he) fun σ H R ⟨δ, b, R0, Q', E', I, w, k, ke⟩ => ⟨δ, b, R0, _, E', I, w, fun d b1 v R1 H1 J st r q => by
    cases d <;> first | exact False.elim q | skip
    cases r
    exact ⟨_, rfl, k _ b1 _ R1 H1 J st.st (Wk.chs _) q⟩, ke⟩
end
end LK

/-! All expressions, the recursion. -/
namespace LK
open PySem PySem.Spec PyProof.Rows L2
structure EsOK (S : Sy) (en : En) (N : List Str) (es : Exs) : Prop where
  ge : ∀ {sc : Scope} {X : Cx} {W : WX} {lv : Nat} {xs : List Expr}, CK S N sc X W lv → chkEs S.M N sc es xs = true → PA X xs (GEs X.K S en W es)
structure OOK (S : Sy) (en : En) (N : List Str) (o : Ox) : Prop where
  ge : ∀ {sc : Scope} {X : Cx} {W : WX} {lv : Nat} {x : Option Expr}, CK S N sc X W lv → chkO S.M N sc o x = true → PO X x (GO X.K S en W o)
  gc : ∀ {sc : Scope} {X : Cx} {lv : Nat} {xs : List Expr}, CK S N sc X (fun _ _ _ _ => False) lv → chkC S.M N sc o xs = true → PTs X xs (GC X.K S en o)
structure SrcOK (S : Sy) (en : En) (N : List Str) (s : Src) : Prop where
  ge : ∀ {sc : Scope} {X : Cx} {W : WX} {lv : Nat} {x tg : Expr} {t : Tg}, CK S N sc X W lv → chkSrc S.M N sc s x = true → zipOk t s = true → (∀ i j, t = .pr i j → ∃ elts kk pos, tg = .Tuple elts kk pos) → PI X tg x (GI X.K S en W s) ∧ ordX x = true
section
variable {S : Sy} {en : En} {N : List Str}
theorem EOK.and {a c : Ex} (h : EOK S en N a) (h' : EOK S en N c) : EOK S en N (.and a c) := by
  have inv : ∀ {sc : Scope} {x : Expr}, chkE S.M N sc (.and a c) x = true → ∃ y z r p, x = .BoolOp .And (y :: z :: r) p ∧ chkE S.M N sc a y = true ∧ chkE S.M N sc c (.BoolOp .And (z :: r) p) = true := fun {sc x} hc => by
    unfold chkE at hc
    split at hc
    · simp only [Bool.and_eq_true] at hc
      exact ⟨_, _, _, _, rfl, hc.1, hc.2⟩
    · cases hc
  refine ⟨fun C hc => ?_, fun _ _ z => (by cases z), fun C hc => ?_⟩
  · obtain ⟨y, z, r, p, rfl, h1, h2⟩ := inv hc
    exact gE_and (p2 := p) (h.ge C h1) (h'.ge C h2)
  · obtain ⟨y, z, r, p, rfl, h1, h2⟩ := inv hc
    have q : PW _ _ _ := gT_and (h.gt C h1).1 ((h'.gt C h2).2 _ _ _ rfl)
    exact ⟨q.pt, fun op vs p' e => q⟩
theorem EOK.or {a c : Ex} (h : EOK S en N a) (h' : EOK S en N c) : EOK S en N (.or a c) := by
  have inv : ∀ {sc : Scope} {x : Expr}, chkE S.M N sc (.or a c) x = true → ∃ y z r p, x = .BoolOp .Or (y :: z :: r) p ∧ chkE S.M N sc a y = true ∧ chkE S.M N sc c (.BoolOp .Or (z :: r) p) = true := fun {sc x} hc => by
    unfold chkE at hc
    split at hc
    · simp only [Bool.and_eq_true] at hc
      exact ⟨_, _, _, _, rfl, hc.1, hc.2⟩
    · cases hc
  refine ⟨fun C hc => ?_, fun _ _ z => (by cases z), fun C hc => ?_⟩
  · obtain ⟨y, z, r, p, rfl, h1, h2⟩ := inv hc
    exact gE_or (p2 := p) (h.ge C h1) (h'.ge C h2)
  · obtain ⟨y, z, r, p, rfl, h1, h2⟩ := inv hc
    have q : PW _ _ _ := gT_or (h.gt C h1).1 ((h'.gt C h2).2 _ _ _ rfl)
    exact ⟨q.pt, fun op vs p' e => q⟩
theorem EOK.one {a : Ex} (h : EOK S en N a) : EOK S en N (.one a) := by
  have inv : ∀ {sc : Scope} {x : Expr}, chkE S.M N sc (.one a) x = true → ∃ op y p, x = .BoolOp op [y] p ∧ chkE S.M N sc a y = true := fun {sc x} hc => by
    unfold chkE at hc
    split at hc
    · exact ⟨_, _, _, rfl, hc⟩
    · cases hc
  refine ⟨fun C hc => ?_, fun _ _ z => (by cases z), fun C hc => ?_⟩
  · obtain ⟨op, y, p, rfl, h1⟩ := inv hc
    exact gE_one (h.ge C h1)
  · obtain ⟨op, y, p, rfl, h1⟩ := inv hc
    cases op with
    | And =>
      have q : PW _ _ _ := gT_one1 (pos := p) (h.gt C h1).1
      exact ⟨q.pt, fun op vs p' e => q⟩
    | Or =>
      have q : PW _ _ _ := gT_one2 (pos := p) (h.gt C h1).1
      exact ⟨q.pt, fun op vs p' e => q⟩
theorem EOK.not {a : Ex} (h : EOK S en N a) : EOK S en N (.not a) := by
  have inv : ∀ {sc : Scope} {x : Expr}, chkE S.M N sc (.not a) x = true → ∃ y p, x = .UnaryOp .Not y p ∧ chkE S.M N sc a y = true := fun {sc x} hc => by
    unfold chkE at hc
    split at hc
    · exact ⟨_, _, rfl, hc⟩
    · cases hc
  refine ⟨fun C hc => ?_, fun _ _ z => (by cases z), fun C hc => ?_⟩
  · obtain ⟨y, p, rfl, h1⟩ := inv hc
    exact gE_not (h.ge C h1)
  · obtain ⟨y, p, rfl, h1⟩ := inv hc
    exact ⟨gT_not (h.gt C h1).1, fun _ _ _ z => (by cases z)⟩
theorem EOK.var (i : Nat) : EOK S en N (.var i) := .mk1 rfl (fun C hc => gE_var C (by simpa [chkE] using hc)) fun {sc x} hc => by
  have h : chkV N sc i x = true := by simpa [chkE] using hc
  unfold chkV at h
  split at h
  · rfl
  · cases h
theorem EOK.cst (d : D) : EOK S en N (.cst d) := .mk1 rfl (fun C hc => gE_cst (by simpa [chkE] using hc)) fun {sc x} hc => by
  have h : chkK d x = true := by simpa [chkE] using hc
  unfold chkK at h
  split at h
  · rfl
  · cases h
theorem gl_val {sc : Scope} {s : Str} {x : Expr} (h : glName sc s x = true) : valX x = true := by
  unfold glName at h
  split at h
  · rfl
  · cases h
theorem EOK.glb (g : Nat) : EOK S en N (.glb g) := .mk1 rfl (fun {sc X W lv x} C hc => by
  have h : S.M.hg g = true ∧ glName sc (S.M.gl g) x = true := by simpa [chkE] using hc
  exact gE_glb C h.1 h.2) fun {sc x} hc => by
  have h : S.M.hg g = true ∧ glName sc (S.M.gl g) x = true := by simpa [chkE] using hc
  exact gl_val h.2
theorem EOK.tup {es : Exs} (h : EsOK S en N es) : EOK S en N (.tup es) := by
  have inv : ∀ {sc : Scope} {x : Expr}, chkE S.M N sc (.tup es) x = true → ∃ ys k p, x = .Tuple ys k p ∧ ys.length ≤ 1000 ∧ chkEs S.M N sc es ys = true := fun {sc x} hc => by
    unfold chkE at hc
    split at hc
    · simp only [Bool.and_eq_true, decide_eq_true_eq] at hc
      exact ⟨_, _, _, rfl, hc.1, hc.2⟩
    · cases hc
  refine .mk1 rfl (fun C hc => ?_) fun hc => ?_
  · obtain ⟨ys, k, p, rfl, h1, h2⟩ := inv hc
    exact gE_tup (h.ge C h2) (by rw [(chkEs_ord h2).2]; exact h1)
  · obtain ⟨ys, k, p, rfl, h1, h2⟩ := inv hc
    rfl
theorem EOK.lst {es : Exs} (h : EsOK S en N es) : EOK S en N (.lst es) := by
  have inv : ∀ {sc : Scope} {x : Expr}, chkE S.M N sc (.lst es) x = true → ∃ ys p, x = .List ys p ∧ ys.length ≤ 1000 ∧ chkEs S.M N sc es ys = true := fun {sc x} hc => by
    unfold chkE at hc
    split at hc
    · simp only [Bool.and_eq_true, decide_eq_true_eq] at hc
      exact ⟨_, _, rfl, hc.1, hc.2⟩
    · cases hc
  refine .mkF rfl (fun C hc => ?_) fun hc => ?_
  · obtain ⟨ys, p, rfl, h1, h2⟩ := inv hc
    exact gF_lst (h.ge C h2) (by rw [(chkEs_ord h2).2]; exact h1)
  · obtain ⟨ys, p, rfl, h1, h2⟩ := inv hc
    rfl
theorem EOK.sl {a : Ex} {lo hi : Ox} (h : EOK S en N a) (h1 : OOK S en N lo) (h2 : OOK S en N hi) : EOK S en N (.sl a lo hi) := by
  have inv : ∀ {sc : Scope} {x : Expr}, chkE S.M N sc (.sl a lo hi) x = true → ∃ y l h p2 p, x = .Subscript y (.Slice l h none p2) p ∧ chkE S.M N sc a y = true ∧ chkO S.M N sc lo l = true ∧ chkO S.M N sc hi h = true := fun {sc x} hc => by
    unfold chkE at hc
    split at hc
    · simp only [Bool.and_eq_true] at hc
      exact ⟨_, _, _, _, _, rfl, hc.1.1, hc.1.2, hc.2⟩
    · cases hc
  refine .mk1 rfl (fun C hc => ?_) fun hc => ?_
  · obtain ⟨y, l, hh, p2, p, rfl, q1, q2, q3⟩ := inv hc
    exact gE_sl (h.ge C q1) (h1.ge C q2) (h2.ge C q3)
  · obtain ⟨y, l, hh, p2, p, rfl, q1, q2, q3⟩ := inv hc
    rfl
theorem EOK.slF {a : Ex} {lo hi : Ox} (h : EOK S en N a) (h1 : OOK S en N lo) (h2 : OOK S en N hi) : EOK S en N (.slF a lo hi) := by
  have inv : ∀ {sc : Scope} {x : Expr}, chkE S.M N sc (.slF a lo hi) x = true → ∃ y l h p2 p, x = .Subscript y (.Slice l h none p2) p ∧ chkE S.M N sc a y = true ∧ chkO S.M N sc lo l = true ∧ chkO S.M N sc hi h = true := fun {sc x} hc => by
    unfold chkE at hc
    split at hc
    · simp only [Bool.and_eq_true] at hc
      exact ⟨_, _, _, _, _, rfl, hc.1.1, hc.1.2, hc.2⟩
    · cases hc
  refine .mkF rfl (fun C hc => ?_) fun hc => ?_
  · obtain ⟨y, l, hh, p2, p, rfl, q1, q2, q3⟩ := inv hc
    exact gF_slF (h.ge C q1) (h1.ge C q2) (h2.ge C q3)
  · obtain ⟨y, l, hh, p2, p, rfl, q1, q2, q3⟩ := inv hc
    rfl
theorem EOK.lend {i : Nat} {e : Ex} (h : EOK S en N e) : EOK S en N (.lend i e) := by
  have inv : ∀ {sc : Scope} {x : Expr}, chkE S.M N sc (.lend i e) x = true → chkE S.M N sc e x = true ∧ ∀ op vs p, x ≠ .BoolOp op vs p := fun {sc x} hc => by
    unfold chkE at hc
    split at hc
    · exact ⟨hc, fun _ _ _ z => nomatch z⟩
    · exact ⟨hc, fun _ _ _ z => nomatch z⟩
    · cases hc
  exact ⟨fun C hc => gE_lend (h.ge C (inv hc).1), fun _ _ z => Bool.noConfusion z, fun C hc => ⟨gT_lend (h.gt C (inv hc).1).1, fun op vs p e => absurd e ((inv hc).2 op vs p)⟩⟩
theorem EOK.mth {m : Mt} {a c : Ex} (h : EOK S en N a) (h' : EOK S en N c) : EOK S en N (.mth m a c) := by
  have inv : ∀ {sc : Scope} {x : Expr}, chkE S.M N sc (.mth m a c) x = true → ∃ y ap z cp, x = .Call (.Attribute y (mtName m) ap) [z] [] cp ∧ (ap.endLine == cp.line) = true ∧ mtBase y = true ∧ chkE S.M N sc a y = true ∧ chkE S.M N sc c z = true := fun {sc x} hc => by
    unfold chkE at hc
    split at hc
    · simp only [Bool.and_eq_true] at hc
      obtain ⟨⟨⟨⟨q0, q1⟩, q2⟩, q3⟩, q4⟩ := hc
      have e := beq_iff_eq.mp q0
      subst e
      exact ⟨_, _, _, _, rfl, q1, q2, q3, q4⟩
    · cases hc
  have hv : ∀ {sc : Scope} {x : Expr}, chkE S.M N sc (.mth m a c) x = true → valX x = true := fun hc => by
    obtain ⟨y, ap, z, cp, rfl, _⟩ := inv hc
    rfl
  cases m with
  | split =>
    refine .mkF rfl (fun C hc => ?_) hv
    obtain ⟨y, ap, z, cp, rfl, q1, q2, q3, q4⟩ := inv hc
    exact gF_split q2 q1 (chkE_ord q4) (h.ge C q3) (h'.ge C q4)
  | startswith =>
    refine .mk1 rfl (fun C hc => ?_) hv
    obtain ⟨y, ap, z, cp, rfl, q1, q2, q3, q4⟩ := inv hc
    exact gE_mth m_startswith PySem.F.slot_str_startswith PySem.F.type_str_startswith q2 q1 (chkE_ord q4) (h.ge C q3) (h'.ge C q4)
  | partition =>
    refine .mk1 rfl (fun C hc => ?_) hv
    obtain ⟨y, ap, z, cp, rfl, q1, q2, q3, q4⟩ := inv hc
    exact gE_mth m_partition PySem.F.slot_str_partition PySem.F.type_str_partition q2 q1 (chkE_ord q4) (h.ge C q3) (h'.ge C q4)
  | find =>
    refine .mk1 rfl (fun C hc => ?_) hv
    obtain ⟨y, ap, z, cp, rfl, q1, q2, q3, q4⟩ := inv hc
    exact gE_mth m_find PySem.F.slot_str_find PySem.F.type_str_find q2 q1 (chkE_ord q4) (h.ge C q3) (h'.ge C q4)
  | join =>
    refine .mk1 rfl (fun C hc => ?_) hv
    obtain ⟨y, ap, z, cp, rfl, q1, q2, q3, q4⟩ := inv hc
    exact gE_mth m_join PySem.F.slot_str_join PySem.F.type_str_join q2 q1 (chkE_ord q4) (h.ge C q3) (h'.ge C q4)
theorem EOK.call {f : Nat} {es : Exs} (h : EsOK S en N es) : EOK S en N (.call f es) := by
  have inv : ∀ {sc : Scope} {x : Expr}, chkE S.M N sc (.call f es) x = true → ∃ g y ys p, x = .Call g (y :: ys) [] p ∧ S.M.hf f = true ∧ glName sc (S.M.fn f) g = true ∧ chkEs S.M N sc es (y :: ys) = true := fun {sc x} hc => by
    unfold chkE at hc
    split at hc
    · simp only [Bool.and_eq_true] at hc
      exact ⟨_, _, _, _, rfl, hc.1.1, hc.1.2, hc.2⟩
    · cases hc
  have hv : ∀ {sc : Scope} {x : Expr}, chkE S.M N sc (.call f es) x = true → valX x = true := fun hc => by
    obtain ⟨g, y, ys, p, rfl, q1, q2, q3⟩ := inv hc
    rfl
  by_cases hfr : S.G.fr f = true
  · refine .mkF rfl (fun {sc X W lv x} C hc => ?_) hv
    obtain ⟨g, y, ys, p, rfl, q1, q2, q3⟩ := inv hc
    obtain ⟨o1, o2⟩ := chkEs_ord q3
    exact gF_call C q1 hfr q2 (h.ge C q3) (star_of (o1 y List.mem_cons_self) ys _) (stars_of (fun z hz => o1 z (List.mem_cons_of_mem _ hz)) _ _)
  · have hfr' : S.G.fr f = false := by simpa using hfr
    refine .mk1 hfr' (fun {sc X W lv x} C hc => ?_) hv
    obtain ⟨g, y, ys, p, rfl, q1, q2, q3⟩ := inv hc
    obtain ⟨o1, o2⟩ := chkEs_ord q3
    exact gE_call C q1 hfr' q2 (h.ge C q3) (star_of (o1 y List.mem_cons_self) ys _) (stars_of (fun z hz => o1 z (List.mem_cons_of_mem _ hz)) _ _)
theorem tg_tuple {sc : Scope} {t : Tg} {x : Expr} (h : chkTg N sc t x = true) : ∀ i j, t = .pr i j → ∃ elts kk pos, x = .Tuple elts kk pos := fun i j e => by
  subst e
  obtain ⟨a, b, k, pos, rfl, _⟩ := chkTg_pr h
  exact ⟨_, _, _, rfl⟩
theorem EOK.comp {t : Tg} {src : Src} {c : Ox} {elt : Ex} (h : EOK S en N elt) (h1 : SrcOK S en N src) (h2 : OOK S en N c) : EOK S en N (.comp t src c elt) := by
  have inv : ∀ {sc : Scope} {x : Expr}, chkE S.M N sc (.comp t src c elt) x = true → ∃ y tg it ifs scope p, x = .ListComp y [⟨tg, it, ifs, 0⟩] scope p ∧ zipOk t src = true ∧ chkTg N (relS scope sc) t tg = true ∧ ownTg N scope t = true ∧ chkSrc S.M N sc src it = true ∧
      blkC N sc scope (ownOf N t) = true ∧ chkC S.M N (relS scope sc) c ifs = true ∧ chkE S.M N (relS scope sc) elt y = true := fun {sc x} hc => by
    unfold chkE at hc
    split at hc
    · simp only [Bool.and_eq_true] at hc
      exact ⟨_, _, _, _, _, _, rfl, hc.1.1.1.1.1.1, hc.1.1.1.1.1.2, hc.1.1.1.1.2, hc.1.1.1.2, hc.1.1.2, hc.1.2, hc.2⟩
    · cases hc
  refine .mkF rfl (fun {sc X W lv x} C hc => ?_) fun hc => ?_
  · obtain ⟨y, tg, it, ifs, scope, p, rfl, q0, q1, q2, q3, q4, q5, q6⟩ := inv hc
    obtain ⟨hpi, ho⟩ := h1.ge C q3 q0 (tg_tuple q1)
    refine peImp (pe_lc (g := gTg X.K t) (tt := GC X.K S en c) (te := GE X.K S en (fun _ _ _ _ => False) elt) C.calm (by rw [C.n]; exact C.nd) hpi (blkOk_by (own := ownOf N t) (by rw [C.n, C.sc]; exact q4)) (fun s H Cc cl fp => pg_blk C q1 q2 s H Cc cl fp) (fun s H Cc cl fp => h2.gc (C.blk s H scope Cc cl fp) q5) (fun s H Cc cl fp => h.ge (C.blk s H scope Cc cl fp) q6) (fun v => noSet_of ho v)) fun σ H Q q => ?_
    exact comp_read (ifs := ifs) (it := it) C q1 σ H Q q
  · obtain ⟨y, tg, it, ifs, scope, p, rfl, _⟩ := inv hc
    rfl
theorem EOK.compR {v i : Nat} {elt : Ex} (h : EOK S en N elt) : EOK S en N (.compR v i elt) := by
  have inv : ∀ {sc : Scope} {x : Expr}, chkE S.M N sc (.compR v i elt) x = true → ∃ y tg it scope p, x = .ListComp y [⟨tg, it, [], 0⟩] scope p ∧ chkTg N (relS scope sc) (.nm i) tg = true ∧ ownTg N scope (.nm i) = true ∧ chkF S.M N sc .rows v it = true ∧
      blkC N sc scope (ownOf N (.nm i)) = true ∧ chkE S.M N (relS scope sc) elt y = true := fun {sc x} hc => by
    unfold chkE at hc
    split at hc
    · simp only [Bool.and_eq_true] at hc
      exact ⟨_, _, _, _, _, rfl, hc.1.1.1.1, hc.1.1.1.2, hc.1.1.2, hc.1.2, hc.2⟩
    · cases hc
  refine .mkF rfl (fun {sc X W lv x} C hc => ?_) fun hc => ?_
  · obtain ⟨y, tg, it, scope, p, rfl, q1, q2, q3, q4, q6⟩ := inv hc
    have ho : ordX it = true := by
      obtain ⟨_, o, q, rfl, _⟩ := chkF_inv q3
      rfl
    refine peImp (pe_lc (g := gTg X.K (.nm i)) (tt := GC X.K S en .no) (te := GE X.K S en (fun _ _ _ _ => False) elt) C.calm (by rw [C.n]; exact C.nd) (pi_list (pe_field C q3)) (blkOk_by (own := ownOf N (.nm i)) (by rw [C.n, C.sc]; exact q4)) (fun s H Cc cl fp => pg_blk C q1 q2 s H Cc cl fp) (fun s H Cc cl fp => gC_no) (fun s H Cc cl fp => h.ge (C.blk s H scope Cc cl fp) q6) (fun v => noSet_of ho v)) fun σ H Q q => ?_
    exact compR_read (it := it) C q1 q3 σ H Q q
  · obtain ⟨y, tg, it, scope, p, rfl, _⟩ := inv hc
    rfl
theorem EOK.oix {i : Nat} {e : Ex} (h : EOK S en N e) : EOK S en N (.oix i e) := by
  have inv : ∀ {sc : Scope} {x : Expr}, chkE S.M N sc (.oix i e) x = true → ∃ y z p, x = .Subscript y z p ∧ chkV N sc i y = true ∧ chkE S.M N sc e z = true := fun {sc x} hc => by
    unfold chkE at hc
    split at hc
    · simp only [Bool.and_eq_true] at hc
      exact ⟨_, _, _, rfl, hc.1, hc.2⟩
    · cases hc
  refine .mk1 rfl (fun C hc => ?_) fun hc => ?_
  · obtain ⟨y, z, p, rfl, h1, h2⟩ := inv hc
    exact gE_oix C h1 (h.ge C h2) (plainIx_of (chkE_ord h2))
  · obtain ⟨y, z, p, rfl, _⟩ := inv hc
    rfl
theorem EOK.oln {i : Nat} : EOK S en N (.oln i) := by
  have inv : ∀ {sc : Scope} {x : Expr}, chkE S.M N sc (.oln i) x = true → ∃ g y p, x = .Call g [y] [] p ∧ glName sc "len" g = true ∧ chkV N sc i y = true := fun {sc x} hc => by
    unfold chkE at hc
    split at hc
    · simp only [Bool.and_eq_true] at hc
      exact ⟨_, _, _, rfl, hc.1, hc.2⟩
    · cases hc
  refine .mk1 rfl (fun C hc => ?_) fun hc => ?_
  · obtain ⟨g, y, p, rfl, hl, h⟩ := inv hc
    obtain ⟨p0, rfl, h1, h2, h3⟩ := gln C hl
    have ho : ordX y = true := by
      unfold chkV at h
      split at h
      · rfl
      · cases h
    refine peImp (pe_callB call_len_seq h1 (blt_none C (by decide +kernel)) PySem.boot_len (pa_cons (pe_slot C h) pa_nil (star_of ho [] _)) h3 h2 (star_of ho [] _) rfl) fun σ H Q ⟨δ, b, R, Q', E', I, w, k, ke⟩ => ?_
    have w' : (match LK.gt δ i with
      | .ow ds => Q' (.int ds.length) b
      | _ => False) := w
    cases hg : LK.gt δ i with
    | no => rw [hg] at w'; exact w'.elim
    | vl _ => rw [hg] at w'; exact w'.elim
    | ow ds =>
      rw [hg] at w'
      obtain ⟨p, xs, h1, oa, h2, h3, h4⟩ := I.owl hg
      refine ⟨_, h1, _, xs, rfl, .inl (SqL.of h2), ?_⟩
      rw [h3.length]
      exact k _ b _ R H I (StQ.refl I.sub) (.int _) w'
  · obtain ⟨g, y, p, rfl, _⟩ := inv hc
    rfl
theorem eqD_nil (ds : List D) : eqD (.lst ds) (.lst []) = ds.isEmpty := by
  cases ds <;> rfl
/-- an own list against the empty one -/
theorem onil_read {K : PySem.W.Frag} {i : Nat} {ne : Bool} {σ : L2.St} {H : Hp} {Q : Bool → Hp → Prop} {δ : Env} {b : Ob} {R : Hp} {Q' : D → Ob → Prop} (I : ER K S.bc en δ b σ R H) (w : wE S.G (.onil i ne) δ b Q' fun _ => False)
    (k : ∀ t R' H', ER K S.bc en δ b σ R' H' → Stp S.bc b b R H R' H' → Q' (.bl t) b → Q t H') {o : O2} (ho : o = if ne then .ne else .eq) : ∃ v, σ[i]? = some (some v) ∧ (([] : List V).length ≤ sizeLine ∧ ∀ p, H p = none → r2 K o v (.ref p) (upd H p (.lst [])) (fun x H' => ∃ t, x = .bl t ∧ Q t H')) := by
  have w' : (match gt δ i with
    | .ow ds => cmpOk 20 (.lst ds) = true ∧ Q' (.bl (if ne then !ds.isEmpty else ds.isEmpty)) b
    | _ => False) := w
  cases hg : gt δ i with
  | no => rw [hg] at w'; exact w'.elim
  | vl _ => rw [hg] at w'; exact w'.elim
  | ow ds =>
    rw [hg] at w'
    obtain ⟨hc, hq⟩ := w'
    obtain ⟨p, xs, h1, oa, h2, h3, h4⟩ := I.owl hg
    refine ⟨_, h1, by decide, fun q hq0 => ?_⟩
    have hqp : p ≠ q := fun e => by rw [e, hq0] at h2; cases h2
    have nq : R q = none := I.sub.fre hq0
    have s1 : Sub R (upd R p (.lst xs)) := Sub.new h4
    have s2 : Sub (upd R p (.lst xs)) (upd (upd R p (.lst xs)) q (.lst [])) := Sub.new (by rw [upd_ne hqp.symm]; exact nq)
    have hs : Sub (upd (upd R p (.lst xs)) q (.lst [])) (upd H q (.lst [])) := fun c u e => by
      by_cases hcq : c = q
      · subst hcq
        rw [upd_same] at e ⊢
        exact e
      · rw [upd_ne hcq] at e ⊢
        by_cases hcp : c = p
        · subst hcp
          rw [upd_same] at e
          rw [h2]
          exact e
        · rw [upd_ne hcp] at e
          exact I.sub c u e
    have fin : ∀ t R' H', Grow (upd (upd R p (.lst xs)) q (.lst [])) (upd H q (.lst [])) R' H' → Q' (.bl t) b → Q t H' := fun t R' H' g q' => by
      have g2 : Grow R H R H' := ⟨Sub.refl _, fun c u e => g.hh c u (Sub.new hq0 c u (I.sub c u e)), fun c u e => g.hh c u (Sub.new hq0 c u e), fun _ _ _ => rfl⟩
      exact k t R H' (I.grow g2) (I.stpG g2) q'
    subst ho
    refine ⟨_, .lst ds, .lst [], fun z => ∃ t, z = .bl t ∧ Q' (.bl t) b, hs, .lst (by rw [upd_ne hqp]; exact upd_same) (h3.mono (s1.trans s2)), .lst upd_same .nil, ?_, fun z v R' H' g r hz => ?_⟩
    · cases ne with
      | true => exact ⟨hc, rfl, _, rfl, by rw [eqD_nil]; exact hq⟩
      | false => exact ⟨hc, rfl, _, rfl, by rw [eqD_nil]; exact hq⟩
    · obtain ⟨t, rfl, q'⟩ := hz
      cases r
      exact ⟨t, rfl, fin t R' H' g q'⟩
theorem EOK.onil {i : Nat} {ne : Bool} : EOK S en N (.onil i ne) := by
  have inv : ∀ {sc : Scope} {x : Expr}, chkE S.M N sc (.onil i ne) x = true → ∃ y p2 p, x = .Compare y [if ne then CmpOp.NotEq else CmpOp.Eq] [.List [] p2] p ∧ chkV N sc i y = true := fun {sc x} hc => by
    unfold chkE at hc
    split at hc
    · simp only [Bool.and_eq_true, decide_eq_true_eq] at hc
      obtain ⟨h1, rfl⟩ := hc
      exact ⟨_, _, _, rfl, h1⟩
    · cases hc
  have weak : ∀ {δ : Env} {b : Ob} {Q' : D → Ob → Prop} {E' : Nat → Prop}, wE S.G (.onil i ne) δ b Q' E' → wE S.G (.onil i ne) δ b Q' fun _ => False := fun h => h
  refine ⟨fun {sc X W lv x} C hc => ?_, fun _ _ z => (by cases z), fun {sc X W lv x} C hc => ?_⟩
  · obtain ⟨y, p2, p, rfl, h⟩ := inv hc
    have hu : X.A.units + 64 < cLine := by have := C.room.un; omega
    cases ne with
    | true =>
      refine peImp (pe_cmpR (b_ne hu) (pe_slot C h) (pe_lst pa_nil) (marks_of rfl _)) fun σ H Q ⟨δ, b, R, Q', E', I, w, k, ke⟩ => ?_
      obtain ⟨v, h1, h2, h3⟩ := onil_read (Q := fun t H' => Q (.bl t) H') I (weak w) (fun t R' H' J s q => k (.bl t) b (.bl t) R' H' J ⟨s, fun _ => rfl, fun z => by cases z⟩ (.bl t) q) (o := .ne) rfl
      refine ⟨v, h1, h2, fun p hp => ?_⟩
      obtain ⟨R2, dx, dy, Q2, a1, a2, a3, a4, a5⟩ := h3 p hp
      exact ⟨R2, dx, dy, Q2, a1, a2, a3, a4, fun z v R' H' g r hz => by
        obtain ⟨t, rfl, q⟩ := a5 z v R' H' g r hz
        exact q⟩
    | false =>
      refine peImp (pe_cmpR (b_eq hu) (pe_slot C h) (pe_lst pa_nil) (marks_of rfl _)) fun σ H Q ⟨δ, b, R, Q', E', I, w, k, ke⟩ => ?_
      obtain ⟨v, h1, h2, h3⟩ := onil_read (Q := fun t H' => Q (.bl t) H') I (weak w) (fun t R' H' J s q => k (.bl t) b (.bl t) R' H' J ⟨s, fun _ => rfl, fun z => by cases z⟩ (.bl t) q) (o := .eq) rfl
      refine ⟨v, h1, h2, fun p hp => ?_⟩
      obtain ⟨R2, dx, dy, Q2, a1, a2, a3, a4, a5⟩ := h3 p hp
      exact ⟨R2, dx, dy, Q2, a1, a2, a3, a4, fun z v R' H' g r hz => by
        obtain ⟨t, rfl, q⟩ := a5 z v R' H' g r hz
        exact q⟩
  · obtain ⟨y, p2, p, rfl, h⟩ := inv hc
    have hu : X.A.units + 64 < cLine := by have := C.room.un; omega
    refine ⟨?_, fun _ _ _ z => (by cases z)⟩
    cases ne with
    | true =>
      refine ptImp (pt_cmpR (b_ne hu) (pe_slot C h) (pe_lst pa_nil) (marks_of rfl _)) fun σ H Q ⟨δ, b, R, Q', E', I, w, k, ke⟩ => ?_
      obtain ⟨v, h1, h2, h3⟩ := onil_read (Q := Q) I (weak w) (fun t R' H' J s q => k t b R' H' J s q) (o := .ne) rfl
      exact ⟨v, h1, h2, h3⟩
    | false =>
      refine ptImp (pt_cmpR (b_eq hu) (pe_slot C h) (pe_lst pa_nil) (marks_of rfl _)) fun σ H Q ⟨δ, b, R, Q', E', I, w, k, ke⟩ => ?_
      obtain ⟨v, h1, h2, h3⟩ := onil_read (Q := Q) I (weak w) (fun t R' H' J s q => k t b R' H' J s q) (o := .eq) rfl
      exact ⟨v, h1, h2, h3⟩
theorem EOK.fix {f : Fl} {v : Nat} {e : Ex} (h : EOK S en N e) : EOK S en N (.fix f v e) := by
  have inv : ∀ {sc : Scope} {x : Expr}, chkE S.M N sc (.fix f v e) x = true → ∃ y z p, x = .Subscript y z p ∧ quiet e = true ∧ chkF S.M N sc f v y = true ∧ chkE S.M N sc e z = true := fun {sc x} hc => by
    unfold chkE at hc
    split at hc
    · simp only [Bool.and_eq_true] at hc
      exact ⟨_, _, _, rfl, hc.1.1, hc.1.2, hc.2⟩
    · cases hc
  refine .mk1 rfl (fun C hc => ?_) fun hc => ?_
  · obtain ⟨y, z, p, rfl, h0, h1, h2⟩ := inv hc
    exact gE_fix C h0 h1 (h.ge C h2) (plainIx_of (chkE_ord h2))
  · obtain ⟨y, z, p, rfl, _⟩ := inv hc
    rfl
theorem EOK.flen {f : Fl} {v : Nat} : EOK S en N (.flen f v) := by
  have inv : ∀ {sc : Scope} {x : Expr}, chkE S.M N sc (.flen f v) x = true → ∃ g y p, x = .Call g [y] [] p ∧ glName sc "len" g = true ∧ chkF S.M N sc f v y = true := fun {sc x} hc => by
    unfold chkE at hc
    split at hc
    · simp only [Bool.and_eq_true] at hc
      exact ⟨_, _, _, rfl, hc.1, hc.2⟩
    · cases hc
  refine .mk1 rfl (fun C hc => ?_) fun hc => ?_
  · obtain ⟨g, y, p, rfl, h1, h2⟩ := inv hc
    exact gE_flen C h1 h2
  · obtain ⟨g, y, p, rfl, _⟩ := inv hc
    rfl
theorem EOK.fin {f : Fl} {v : Nat} {e : Ex} (h : EOK S en N e) : EOK S en N (.fin f v e) := by
  have inv : ∀ {sc : Scope} {x : Expr}, chkE S.M N sc (.fin f v e) x = true → ∃ y z p, x = .Compare y [.In] [z] p ∧ chkE S.M N sc e y = true ∧ chkF S.M N sc f v z = true := fun {sc x} hc => by
    unfold chkE at hc
    split at hc
    · simp only [Bool.and_eq_true] at hc
      exact ⟨_, _, _, rfl, hc.1, hc.2⟩
    · cases hc
  refine ⟨fun C hc => ?_, fun _ _ z => (by cases z), fun C hc => ?_⟩
  · obtain ⟨y, z, p, rfl, h1, h2⟩ := inv hc
    exact gE_fin C h2 (h.ge C h1)
  · obtain ⟨y, z, p, rfl, h1, h2⟩ := inv hc
    exact ⟨gT_fin C h2 (h.ge C h1), fun _ _ _ z => (by cases z)⟩
theorem EOK.fidx {f : Fl} {v : Nat} {e : Ex} (h : EOK S en N e) : EOK S en N (.fidx f v e) := by
  have inv : ∀ {sc : Scope} {x : Expr}, chkE S.M N sc (.fidx f v e) x = true → ∃ y z ap cp, x = .Call (.Attribute y "index" ap) [z] [] cp ∧ quiet e = true ∧ chkF S.M N sc f v y = true ∧ (ap.endLine == cp.line) = true ∧ chkE S.M N sc e z = true := fun {sc x} hc => by
    unfold chkE at hc
    split at hc
    · simp only [Bool.and_eq_true] at hc
      have e := beq_iff_eq.mp hc.1.1.2
      subst e
      exact ⟨_, _, _, _, rfl, hc.1.1.1.1, hc.1.1.1.2, hc.1.2, hc.2⟩
    · cases hc
  refine .mk1 rfl (fun C hc => ?_) fun hc => ?_
  · obtain ⟨y, z, ap, cp, rfl, h0, h1, h2, h3⟩ := inv hc
    exact gE_fidx C h0 h1 h2 (chkE_ord h3) (h.ge C h3)
  · obtain ⟨y, z, ap, cp, rfl, _⟩ := inv hc
    rfl
theorem EOK.fgoal {v : Nat} : EOK S en N (.fgoal v) := .mk1 rfl (fun C hc => gE_fgoal C (by simpa [chkE] using hc)) fun {sc x} hc => by
  have h : chkF S.M N sc .goal v x = true := by simpa [chkE] using hc
  obtain ⟨_, o, q, rfl, _⟩ := chkF_inv h
  rfl
theorem EOK.fsl {f : Fl} {v : Nat} {lo hi : Ox} (h1 : OOK S en N lo) (h2 : OOK S en N hi) : EOK S en N (.fsl f v lo hi) := by
  have inv : ∀ {sc : Scope} {x : Expr}, chkE S.M N sc (.fsl f v lo hi) x = true → ∃ y l h p2 p, x = .Subscript y (.Slice l h none p2) p ∧ quietO lo = true ∧ quietO hi = true ∧ chkF S.M N sc f v y = true ∧ chkO S.M N sc lo l = true ∧ chkO S.M N sc hi h = true := fun {sc x} hc => by
    unfold chkE at hc
    split at hc
    · simp only [Bool.and_eq_true] at hc
      exact ⟨_, _, _, _, _, rfl, hc.1.1.1.1, hc.1.1.1.2, hc.1.1.2, hc.1.2, hc.2⟩
    · cases hc
  refine .mk1 rfl (fun C hc => ?_) fun hc => ?_
  · obtain ⟨y, l, hh, p2, p, rfl, a1, a2, q1, q2, q3⟩ := inv hc
    exact gE_fsl C a1 a2 q1 (h1.ge C q2) (h2.ge C q3)
  · obtain ⟨y, l, hh, p2, p, rfl, _⟩ := inv hc
    rfl

theorem EsOK.nil : EsOK S en N .nil := ⟨fun {sc X W lv xs} C hc => by
  cases xs with
  | nil => exact gEs_nil
  | cons _ _ => simp [chkEs] at hc⟩
theorem EsOK.cons {e : Ex} {es : Exs} (h : EOK S en N e) (h' : EsOK S en N es) : EsOK S en N (.cons e es) := ⟨fun {sc X W lv xs} C hc => by
  cases xs with
  | nil => simp [chkEs] at hc
  | cons x xs =>
    simp only [chkEs, Bool.and_eq_true] at hc
    exact gEs_cons (h.ge C hc.1) (h'.ge C hc.2) (star_of (chkE_ord hc.1) xs _)⟩
theorem OOK.no : OOK S en N .no where
  ge := fun {sc X W lv x} C hc => by
    cases x with
    | none => exact gO_no
    | some _ => simp [chkO] at hc
  gc := fun {sc X lv xs} C hc => by
    cases xs with
    | nil => exact gC_no
    | cons _ _ => simp [chkC] at hc
theorem OOK.so {e : Ex} (h : EOK S en N e) : OOK S en N (.so e) where
  ge := fun {sc X W lv x} C hc => by
    cases x with
    | none => simp [chkO] at hc
    | some x => exact gO_so (h.ge C (by simpa [chkO] using hc))
  gc := fun {sc X lv xs} C hc => by
    match xs, hc with
    | [x], hc => exact gC_so (h.gt C (by simpa [chkC] using hc)).1
    | [], hc => simp [chkC] at hc
    | _ :: _ :: _, hc => simp [chkC] at hc
theorem SrcOK.rng {e : Ex} (h : EOK S en N e) : SrcOK S en N (.rng e) := ⟨fun {sc X W lv x tg t} C hc hz ht => by
  unfold chkSrc at hc
  split at hc
  · simp only [Bool.and_eq_true] at hc
    exact ⟨gI_rng C hc.1 (chkE_ord hc.2) (h.ge C hc.2), rfl⟩
  · cases hc⟩
theorem SrcOK.rng2 {e c : Ex} (h : EOK S en N e) (h' : EOK S en N c) : SrcOK S en N (.rng2 e c) := ⟨fun {sc X W lv x tg t} C hc hz ht => by
  unfold chkSrc at hc
  split at hc
  · simp only [Bool.and_eq_true] at hc
    exact ⟨gI_rng2 C hc.1.1 (chkE_ord hc.1.2) (chkE_ord hc.2) (h.ge C hc.1.2) (h'.ge C hc.2), rfl⟩
  · cases hc⟩
theorem SrcOK.seq {e : Ex} (h : EOK S en N e) : SrcOK S en N (.seq e) := ⟨fun {sc X W lv x tg t} C hc hz ht => by
  have hc' : chkE S.M N sc e x = true := by simpa [chkSrc] using hc
  exact ⟨gI_seq (chkE_ord hc') (h.ge C hc'), chkE_ord hc'⟩⟩
theorem SrcOK.chs {e : Ex} (h : EOK S en N e) : SrcOK S en N (.chs e) := ⟨fun {sc X W lv x tg t} C hc hz ht => by
  have hc' : chkE S.M N sc e x = true := by simpa [chkSrc] using hc
  exact ⟨gI_chs (h.ge C hc'), chkE_ord hc'⟩⟩
theorem SrcOK.zip {e c : Ex} (h : EOK S en N e) (h' : EOK S en N c) : SrcOK S en N (.zip e c) := ⟨fun {sc X W lv x tg t} C hc hz ht => by
  unfold chkSrc at hc
  split at hc
  · simp only [Bool.and_eq_true] at hc
    cases t with
    | nm i => cases hz
    | pr i j =>
      obtain ⟨elts, kk, pos, rfl⟩ := ht i j rfl
      exact ⟨gI_zip C hc.1.1 (chkE_ord hc.1.2) (chkE_ord hc.2) (h.ge C hc.1.2) (h'.ge C hc.2), rfl⟩
  · cases hc⟩
mutual
theorem eok : ∀ e : Ex, EOK S en N e
  | .var i => .var i
  | .cst d => .cst d
  | .glb g => .glb g
  | .op1 o a => (eok a).op1 o
  | .op2 o a c => (eok a).op2 (eok c) o
  | .and a c => (eok a).and (eok c)
  | .or a c => (eok a).or (eok c)
  | .not a => (eok a).not
  | .one a => (eok a).one
  | .tup es => .tup (esok es)
  | .lst es => .lst (esok es)
  | .sl a lo hi => .sl (eok a) (ook lo) (ook hi)
  | .call f es => .call (esok es)
  | .comp t src c elt => .comp (eok elt) (srcok src) (ook c)
  | .compR v i elt => .compR (eok elt)
  | .oix i e => .oix (eok e)
  | .oln i => .oln
  | .onil i ne => .onil
  | .fix f v e => .fix (eok e)
  | .flen f v => .flen
  | .fin f v e => .fin (eok e)
  | .fidx f v e => .fidx (eok e)
  | .fgoal v => .fgoal
  | .fsl f v lo hi => .fsl (ook lo) (ook hi)
  | .lend i e => .lend (eok e)
  | .slF a lo hi => .slF (eok a) (ook lo) (ook hi)
  | .mth m a c => .mth (eok a) (eok c)
theorem esok : ∀ es : Exs, EsOK S en N es
  | .nil => .nil
  | .cons e es => .cons (eok e) (esok es)
theorem ook : ∀ o : Ox, OOK S en N o
  | .no => .no
  | .so e => .so (eok e)
theorem srcok : ∀ s : Src, SrcOK S en N s
  | .rng e => .rng (eok e)
  | .rng2 a c => .rng2 (eok a) (eok c)
  | .seq e => .seq (eok e)
  | .zip a c => .zip (eok a) (eok c)
  | .chs e => .chs (eok e)
end
end
end LK

/-! Statements. -/
namespace LK
open PySem PySem.Spec PyProof.Rows L2

/-- what a return leaves -/
def RetR (K : PySem.W.Frag) (S : Sy) (en : En) (ow : Bool) (d : D) (b : Ob) (v : V) (R H : Hp) : Prop :=
  if ow = true then ∃ ds, d = .lst ds ∧ ER K S.bc en [.ow ds] b [some v] R H else ER K S.bc en [.vl d] b [some v] R H
/-- the ends, as data and as heaps -/
structure KO (K : PySem.W.Frag) (S : Sy) (en : En) (W : WX) (ow : Bool) (k : Kt) (D : Ends) : Prop where
  nx : ∀ δ b σ R H, ER K S.bc en δ b σ R H → k.nx δ b → D.nx σ H
  rt : ∀ d b v R H, RetR K S en ow d b v R H → k.rt d b → D.rt v H
  ex : ∀ c δ σ R H, S.M.hc c = true → ER K S.bc en δ none σ R H → k.ex c δ → W (.ref (S.ca c)) none σ H
def GS (K : PySem.W.Frag) (S : Sy) (en : En) (W : WX) (ow : Bool) (s : Sm) : TS := fun D σ H => ∃ δ b R k, ER K S.bc en δ b σ R H ∧ wS S.G s k δ b ∧ KO K S en W ow k D
def GB (K : PySem.W.Frag) (S : Sy) (en : En) (W : WX) (ow : Bool) (s : Sms) : TS := fun D σ H => ∃ δ b R k, ER K S.bc en δ b σ R H ∧ wB S.G s k δ b ∧ KO K S en W ow k D
/-- the context of statements -/
structure CS (S : Sy) (N : List Str) (sc : Scope) (X : Cx) (W : WX) (lv : Nat) : Prop extends CK S N sc X W lv where
  fn : ∀ s, X.fn s = true
  stk : X.stack = X.env :: X.outer
  fr : X.env.frame = some X.env.locals
  pa : PassesOwn (model X.prog X.w) X.A X.env X.xe
  kind : X.env.scope.kind = .function

section
variable {K : PySem.W.Frag} {S : Sy} {en : En} {δ : Env} {b : Ob} {σ : L2.St} {R H : Hp}
theorem KO.eok {W : WX} {ow : Bool} {k : Kt} {D : Ends} (o : KO K S en W ow k D) : EOk K S en W δ σ fun c => k.ex c δ := fun c R' H' hh I h => o.ex c δ σ R' H' hh I h
theorem ER.ret {bc : Addr} (I : ER K bc en δ b σ R H) {v : V} {d : D} (r : Rp K R v d) : ER K bc en [.vl d] b [some v] R H where
  len := rfl
  sub := I.sub
  stp := I.stp
  sl := fun i u e => by
    cases i with
    | zero =>
      cases e
      exact .vl r
    | succ i => cases e
  own := fun i p ⟨ds, h, _⟩ => by
    cases i with
    | zero => cases h
    | succ i => cases h
  dis := fun i j p ⟨ds, h, _⟩ => by
    cases i with
    | zero => cases h
    | succ i => cases h
  bd := fun p B e => by
    obtain ⟨a, r, _⟩ := I.bd p B e
    refine ⟨a, r, fun i q ⟨ds, h, _⟩ => ?_⟩
    cases i with
    | zero => cases h
    | succ i => cases h
theorem ER.retO {bc : Addr} (I : ER K bc en δ b σ R H) {p : Addr} {xs : List V} {ds : List D} (h0 : en.H0 p = none) (nr : R p = none) (nb : ¬ Bo bc b H p) (h : H p = some (.lst xs)) (r : Rps K R xs ds) : ER K bc en [.ow ds] b [some (.ref p)] R H where
  len := rfl
  sub := I.sub
  stp := I.stp
  sl := fun i u e => by
    cases i with
    | zero =>
      cases e
      exact .ow h r nr
    | succ i => cases e
  own := fun i q ⟨es, g, e⟩ => by
    cases i with
    | zero =>
      cases e
      exact h0
    | succ i => cases g
  dis := fun i j q ⟨es, g, e⟩ ⟨es', g', e'⟩ => by
    cases i with
    | zero =>
      cases j with
      | zero => rfl
      | succ j => cases g'
    | succ i => cases g
  bd := fun p' B e => by
    obtain ⟨a, r', _⟩ := I.bd p' B e
    refine ⟨a, r', fun i q ⟨es, g, e2⟩ hq => ?_⟩
    cases i with
    | zero =>
      cases e2
      exact nb (by rw [e]; exact (Bo.iff r').mpr hq)
    | succ i => cases g
end

section
variable {S : Sy} {en : En} {N : List Str} {sc : Scope} {X : Cx} {W : WX} {lv : Nat} {ow : Bool}
theorem CS.hfn (C : CS S N sc X W lv) : ∀ s, isLoc sc s = true → X.fn s = true ∨ X.env.scope.names.lookup s = some .local := fun s _ => .inl (C.fn s)
theorem chkL_inv {i : Nat} {y : Expr} (h : chkL N sc i y = true) : ∃ s pos, y = .Name s pos ∧ N[i]? = some s ∧ isLoc sc s = true := by
  unfold chkL at h
  split at h
  · simp only [Bool.and_eq_true, decide_eq_true_eq] at h
    exact ⟨_, _, rfl, h.1, h.2⟩
  · cases h
/-- name = value, the value's reading given -/
theorem gS_asgT (C : CS S N sc X W lv) {i : Nat} {e : Ex} {y z : Expr} {pos : Pos} {te : TE} (ht : PS X (.Assign [y] z pos) (tAsg te (gName i))) (hi : ∀ σ H Q, GE X.K S en W e σ H Q → te σ H Q) : PS X (.Assign [y] z pos) (GS X.K S en W ow (.asg i e)) :=
  psImp ht fun D σ H ⟨δ, b, R, k, I, w, o⟩ => hi σ H _ ⟨δ, b, R, _, _, I, w, fun d b1 v R1 H1 J st r q => o.nx _ b1 _ R1 H1 (J.setV r) q, o.eok⟩
theorem gS_asgOT (C : CS S N sc X W lv) {i : Nat} {e : Ex} {y z : Expr} {pos : Pos} {te : TE} (ht : PS X (.Assign [y] z pos) (tAsg te (gName i))) (hi : ∀ σ H Q, GF X.K S en W e σ H Q → te σ H Q) : PS X (.Assign [y] z pos) (GS X.K S en W ow (.asgO i e)) :=
  psImp ht fun D σ H ⟨δ, b, R, k, I, w, o⟩ => hi σ H _ ⟨δ, b, R, _, _, I, w, fun ds b1 p xs R1 H1 J st n nr nb hp r q =>
    o.nx _ b1 _ R1 H1 (J.setO (I.freG n st nr nb) hp r) q, o.eok⟩
theorem ordF {M : Nms} {f : Fl} {v : Nat} {x : Expr} (h : chkF M N sc f v x = true) : ordX x = true := by
  obtain ⟨_, o, q, rfl, _⟩ := chkF_inv h
  rfl
theorem chkE_lc {M : Nms} {e : Ex} {elt : Expr} {gs : List Comprehension} {scope : Scope} {p : Pos} (h : chkE M N sc e (.ListComp elt gs scope p) = true) : (∃ t src c el, e = .comp t src c el) ∨ ∃ v i el, e = .compR v i el := by
  cases e with
  | comp t src c el => exact .inl ⟨_, _, _, _, rfl⟩
  | compR v i el => exact .inr ⟨_, _, _, rfl⟩
  | op1 o a =>
    exfalso
    rcases chkE_op1 h with ⟨_, _, _, z, _⟩ | ⟨_, _, _, _, _, z, _⟩ | ⟨_, _, _, _, _, z, _⟩ | ⟨_, _, _, _, _, z, _⟩ | ⟨_, _, _, _, _, _, z, _⟩ <;> cases z
  | op2 o a c =>
    exfalso
    rcases chkE_op2 h with ⟨_, _, _, _, _, z, _⟩ | ⟨_, _, _, _, _, z, _⟩ | ⟨_, _, _, _, _, _, z, _⟩ | ⟨_, _, _, _, z, _⟩ <;> cases z
  | _ =>
    exfalso
    simp [chkE, chkV, chkK, glName, chkF] at h
/-- both, for any value: the two ways that a comprehension may be stored -/
theorem asg_any (C : CS S N sc X W lv) {i : Nat} {e : Ex} {y z : Expr} {pos : Pos} (hy : chkL N sc i y = true) (ha : chkAs sc y z = true) (he : chkE S.M N sc e z = true) :
    (∃ te, PS X (.Assign [y] z pos) (tAsg te (gName i)) ∧ (∀ σ H Q, GE X.K S en W e σ H Q → te σ H Q)) ∧ (fresh S.G.fr e = true → ∃ te, PS X (.Assign [y] z pos) (tAsg te (gName i)) ∧ ∀ σ H Q, GF X.K S en W e σ H Q → te σ H Q) := by
  obtain ⟨s, py, rfl, hN, hl⟩ := chkL_inv hy
  have hN' : X.N[i]? = some s := by rw [C.n]; exact hN
  have hnd : X.N.Nodup := by rw [C.n]; exact C.nd
  have hkind : X.env.scope.kind = .function := C.kind
  -- the plain way
  have plain : swapsWith z (some (.Name s py)) pos.line X.env = pure false → (∃ te, PS X (.Assign [.Name s py] z pos) (tAsg te (gName i)) ∧ (∀ σ H Q, GE X.K S en W e σ H Q → te σ H Q)) ∧ (fresh S.G.fr e = true → ∃ te, PS X (.Assign [.Name s py] z pos) (tAsg te (gName i)) ∧ ∀ σ H Q, GF X.K S en W e σ H Q → te σ H Q) := fun hs =>
    ⟨⟨_, ps_set hnd hN' (C.loc hl) ((eok e).ge C.toCK he) hs (.inl (C.fn s)), fun σ H Q q => q⟩, fun hf => ⟨_, ps_set hnd hN' (C.loc hl) ((eok e).gf C.toCK he hf) hs (.inl (C.fn s)), fun σ H Q q => q⟩⟩
  by_cases hz : ∃ elt gs scope p, z = .ListComp elt gs scope p
  · obtain ⟨elt, gs, scope, p, rfl⟩ := hz
    have ha' : (match sc.names.lookup s with
      | some .local => py.line == p.line && !(scope.names.any fun (n, k) => n == s && (k == .local || k == .cell))
      | some .cell => true
      | _ => false) = true := ha
    cases hloc : sc.names.lookup s with
    | none => rw [hloc] at ha'; cases ha'
    | some kd =>
      rw [hloc] at ha'
      cases kd with
      | free => cases ha'
      | globalExplicit => cases ha'
      | globalImplicit => cases ha'
      | cell =>
        refine plain ?_
        have ky : X.env.kindOf s = some .cell := by
          show X.env.scope.names.lookup s = some .cell
          rw [C.sc]
          exact hloc
        have e0 : (some NameKind.cell == some NameKind.local) = false := rfl
        unfold swapsWith
        simp only [ky, e0, Bool.and_false, Bool.false_and]
      | «local» =>
        have ha2 : (py.line == p.line) = true ∧ (scope.names.any fun (n, k) => n == s && (k == .local || k == .cell)) = false := by simpa only [Bool.and_eq_true, Bool.not_eq_true'] using ha'
        have hk : X.env.scope.names.lookup s = some .local := by rw [C.sc]; exact hloc
        have sw := sw_true (elt := elt) (gs := gs) (l := pos.line) hkind hk ha2.1 ha2.2
        rcases chkE_lc he with ⟨t, src, c, el, rfl⟩ | ⟨v, i', el, rfl⟩
        · unfold chkE at he
          split at he
          · rename_i e1
            cases e1
            simp only [Bool.and_eq_true] at he
            obtain ⟨⟨⟨⟨⟨⟨q0, q1⟩, q2⟩, q3⟩, q4⟩, q5⟩, q6⟩ := he
            obtain ⟨hpi, ho⟩ := (srcok src).ge C.toCK q3 q0 (tg_tuple q1)
            have P := ps_setLc (py := py) (spos := pos) (g := gTg X.K t) (tt := GC X.K S en c) (te := GE X.K S en (fun _ _ _ _ => False) el) C.calm hnd hN' hk sw hpi (blkOk_by (own := ownOf N t) (by rw [C.n, C.sc]; exact q4)) (fun s H Cc cl fp => pg_blk C.toCK q1 q2 s H Cc cl fp) (fun s H Cc cl fp => (ook c).gc (C.toCK.blk s H _ Cc cl fp) q5) (fun s H Cc cl fp => (eok el).ge (C.toCK.blk s H _ Cc cl fp) q6) (fun v => noSet_of ho v)
            exact ⟨⟨_, P, fun σ H Q q => comp_read (ifs := []) (it := .Name s py) C.toCK q1 σ H Q (ge_to_gf rfl q)⟩, fun _ => ⟨_, P, fun σ H Q q => comp_read (ifs := []) (it := .Name s py) C.toCK q1 σ H Q q⟩⟩
          · cases he
        · unfold chkE at he
          split at he
          · rename_i e1
            cases e1
            simp only [Bool.and_eq_true] at he
            obtain ⟨⟨⟨⟨q1, q2⟩, q3⟩, q4⟩, q6⟩ := he
            have ho := ordF q3
            have P := ps_setLc (py := py) (spos := pos) (g := gTg X.K (.nm i')) (tt := GC X.K S en .no) (te := GE X.K S en (fun _ _ _ _ => False) el) C.calm hnd hN' hk sw (pi_list (pe_field C.toCK q3)) (blkOk_by (own := ownOf N (.nm i')) (by rw [C.n, C.sc]; exact q4)) (fun s H Cc cl fp => pg_blk C.toCK q1 q2 s H Cc cl fp) (fun s H Cc cl fp => gC_no) (fun s H Cc cl fp => (eok el).ge (C.toCK.blk s H _ Cc cl fp) q6) (fun v => noSet_of ho v)
            exact ⟨⟨_, P, fun σ H Q q => compR_read C.toCK q1 q3 σ H Q (ge_to_gf rfl q)⟩, fun _ => ⟨_, P, fun σ H Q q => compR_read C.toCK q1 q3 σ H Q q⟩⟩
          · cases he
  · refine plain ?_
    cases z with
    | ListComp a b c d => exact absurd ⟨_, _, _, _, rfl⟩ hz
    | SetComp a b c d => exact absurd ha (by simp [chkAs])
    | DictComp a b c d e => exact absurd ha (by simp [chkAs])
    | _ => rfl
end
end LK

/-! Statements: the rules. -/
namespace LK
open PySem PySem.Spec PyProof.Rows L2
section
variable {S : Sy} {en : En} {N : List Str} {sc : Scope} {X : Cx} {W : WX} {lv : Nat} {ow : Bool} {y z o : Expr} {e a c : Ex} {pos p2 : Pos}
theorem chkV_inv {i : Nat} {y : Expr} (h : chkV N sc i y = true) : ∃ s pos, y = .Name s pos := by
  unfold chkV at h
  split at h
  · exact ⟨_, _, rfl⟩
  · cases h
theorem gS_ret (C : CS S N sc X W lv) (h : PE X y (GE X.K S en W e)) : PS X (.Return (some y) pos) (GS X.K S en W false (.ret e)) :=
  psImp (ps_ret h) fun D σ H ⟨δ, b, R, k, I, w, o⟩ => ⟨δ, b, R, _, _, I, w, fun d b1 v R1 H1 J st r q => o.rt d b1 v R1 H1 (by
    unfold RetR
    rw [if_neg Bool.false_ne_true]
    exact J.ret r) q, o.eok⟩
theorem gS_retF (C : CS S N sc X W lv) (h : PE X y (GF X.K S en W e)) : PS X (.Return (some y) pos) (GS X.K S en W true (.ret e)) :=
  psImp (ps_ret h) fun D σ H ⟨δ, b, R, k, I, w, o⟩ => ⟨δ, b, R, _, _, I, w, fun ds b1 p xs R1 H1 J st n nr nb hp r q => o.rt (.lst ds) b1 (.ref p) R1 H1 (by
    unfold RetR
    rw [if_pos rfl]
    exact ⟨ds, rfl, J.retO (I.freN n).h0 nr nb hp r⟩) q, o.eok⟩
theorem gS_retO (C : CS S N sc X W lv) {i : Nat} (h : chkV N sc i y = true) : PS X (.Return (some y) pos) (GS X.K S en W true (.retO i)) :=
  psImp (ps_ret (pe_slot C.toCK h)) fun D σ H ⟨δ, b, R, k, I, w, o⟩ => by
    have w' : (match gt δ i with
      | .ow ds => k.rt (.lst ds) b
      | _ => False) := w
    cases hg : gt δ i with
    | no => rw [hg] at w'; exact w'.elim
    | vl _ => rw [hg] at w'; exact w'.elim
    | ow ds =>
      rw [hg] at w'
      obtain ⟨p, xs, h1, oa, h2, h3, h4⟩ := I.owl hg
      refine ⟨_, h1, o.rt (.lst ds) b (.ref p) R H ?_ w'⟩
      unfold RetR
      rw [if_pos rfl]
      exact ⟨ds, rfl, I.retO (I.own i p oa) h4 (fun z => (I.bo_no z).2.1 i oa) h2 h3⟩
theorem gS_expr (C : CS S N sc X W lv) (h : PE X y (GE X.K S en W e)) (hs : swapsWith y none pos.line X.env = pure false) : PS X (.Expr y pos) (GS X.K S en W ow (.expr e)) :=
  psImp (ps_expr h hs) fun D σ H ⟨δ, b, R, k, I, w, o⟩ => ⟨δ, b, R, _, _, I, w, fun d b1 v R1 H1 J st r q => o.nx _ b1 σ R1 H1 J q, o.eok⟩
theorem gS_rais (C : CS S N sc X W lv) {c : Nat} {f : Expr} {m : Str} {j : Nat} {p3 p4 : Pos} (hc : S.M.hc c = true) (hf : glName sc (S.M.ex c) f = true) : PS X (.Raise (some (.Call f [.Constant (.str m) j p3] [] p4)) none pos) (GS X.K S en W ow (.rais c)) := by
  obtain ⟨p0, rfl, h1, h2, h3⟩ := gln C.toCK hf
  have E := C.fs.ex c hc
  exact psImp (ps_raise C.calm C.tk (pmk_own PySem.F.excBase_ValueError E.x E.g E.k (raises_own E.b E.t) h1 h2)) fun D σ H ⟨δ, b, R, k, I, w, o⟩ => o.ex c δ σ R H hc I.forget w
theorem gS_ite (C : CS S N sc X W lv) {t u : Sms} {ys zs : List Stmt} (hc : PT X y (GT X.K S en W c)) (ht : PSs X ys (GB X.K S en W ow t)) (hu : PSs X zs (GB X.K S en W ow u)) : PS X (.If y ys zs pos) (GS X.K S en W ow (.ite c t u)) :=
  psImp (ps_if hc ht hu) fun D σ H ⟨δ, b, R, k, I, w, o⟩ => by
    refine ⟨δ, b, R, fun tt b1 => if tt then wB S.G t k δ b1 else wB S.G u k δ b1, _, I, w, fun tt b1 R1 H1 J st q => ?_, o.eok⟩
    cases tt with
    | true =>
      rw [if_pos rfl] at q ⊢
      exact ⟨δ, b1, R1, k, J, q, o⟩
    | false =>
      rw [if_neg Bool.false_ne_true] at q ⊢
      exact ⟨δ, b1, R1, k, J, q, o⟩
theorem gS_whil (C : CS S N sc X W lv) {t : Sms} {ys : List Stmt} (hc : PT X y (GT X.K S en W c)) (ht : PSs X ys (GB X.K S en W ow t)) : PS X (.While y ys [] pos) (GS X.K S en W ow (.whil c t)) :=
  psImp (ps_while C.pa hc ht) fun D σ H ⟨δ, b, R, k, I, w, o⟩ => by
    obtain ⟨P, ⟨m0, w0⟩, w⟩ := w
    refine ⟨fun m σ H => ∃ δ b R, ER X.K S.bc en δ b σ R H ∧ P m δ b, ⟨m0, δ, b, R, I, w0⟩, fun m σ1 H1 ⟨δ1, b1, R1, I1, w1⟩ => ?_⟩
    refine ⟨δ1, b1, R1, fun tt b2 => if tt then wB S.G t { k with nx := fun δ' b' => ∃ m', m' < m ∧ P m' δ' b' } δ1 b2 else k.nx δ1 b2, _, I1, w m δ1 b1 w1, fun tt b2 R2 H2 J st q => ?_, o.eok⟩
    cases tt with
    | true =>
      rw [if_pos rfl] at q ⊢
      exact ⟨fun σ' H' => ∃ m', m' < m ∧ ∃ δ b R, ER X.K S.bc en δ b σ' R H' ∧ P m' δ b, fun _ _ h => h, δ1, b2, R2, _, J, q, ⟨fun δ' b' σ' R' H' J' ⟨m', h1, h2⟩ => ⟨m', h1, δ', b', R', J', h2⟩, o.rt, o.ex⟩⟩
    | false =>
      rw [if_neg Bool.false_ne_true] at q ⊢
      exact o.nx δ1 b2 σ1 R2 H2 J q
theorem ER.rebase {K : PySem.W.Frag} {bc : Addr} {δ : Env} {b : Ob} {σ : L2.St} {R H : Hp} (I : ER K bc en δ b σ R H) : ER K bc ⟨en.H0, R, en.b0⟩ δ b σ R H :=
  ⟨I.len, I.sub, ⟨Sub.refl _, fun _ _ _ => rfl, I.stp.dom, I.stp.out, I.stp.bo⟩, I.sl, I.own, I.dis, I.bd⟩
theorem ER.unbase {K : PySem.W.Frag} {bc : Addr} {δ δ1 : Env} {b b1 : Ob} {σ σ1 : L2.St} {R H R1 H1 : Hp} (I : ER K bc en δ1 b1 σ1 R1 H1) (J : ER K bc ⟨en.H0, R1, en.b0⟩ δ b σ R H) : ER K bc en δ b σ R H :=
  ⟨J.len, J.sub, ⟨I.stp.rr.trans J.stp.rr, fun q o e => (J.stp.old q o e).trans (I.stp.old q o e), J.stp.dom, J.stp.out, J.stp.bo⟩, J.sl, J.own, J.dis, J.bd⟩
theorem RetR.unbase {K : PySem.W.Frag} {δ1 : Env} {b1 : Ob} {σ1 : L2.St} {R1 H1 : Hp} (I : ER K S.bc en δ1 b1 σ1 R1 H1) {d : D} {b : Ob} {v : V} {R H : Hp} (r : RetR K S ⟨en.H0, R1, en.b0⟩ ow d b v R H) : RetR K S en ow d b v R H := by
  unfold RetR at r ⊢
  split
  · rename_i h
    rw [if_pos h] at r
    obtain ⟨ds, e, J⟩ := r
    exact ⟨ds, e, I.unbase J⟩
  · rename_i h
    rw [if_neg h] at r
    exact I.unbase r
theorem pssEx {ys : List Stmt} {t : En → TS} (h : ∀ en, PSs X ys (t en)) : PSs X ys (fun D σ H => ∃ en, t en D σ H) := ⟨fun pins s σ H D I ⟨en, hw⟩ => (h en).run pins s σ H D I hw⟩
theorem gS_forr (C : CS S N sc X W lv) {tg : Tg} {src : Src} {t : Sms} {ys : List Stmt} (hi : PI X z y (GI X.K S en W src)) (hg : PG X z (gTg X.K tg)) (hs : ∀ x, foldedSetIterable y X.env x = pure x) (ht : ∀ en, PSs X ys (GB X.K S en W ow t)) : PS X (.For z y ys [] pos) (GS X.K S en W ow (.forr tg src t)) :=
  psImp (ps_for C.pa C.calm hi hg (pssEx ht) hs) fun D σ H ⟨δ, b, R, k, I, w, o⟩ => by
    refine ⟨δ, b, R, _, _, I, w, fun xs b1 J R1 H1 J1 st1 wk q => ?_, o.eok⟩
    refine ⟨fun i m σ H => ∃ δ b R, ER X.K S.bc en δ b σ R H ∧ Sub R1 R ∧ i + m = xs.length ∧ wfor (fun x δ b R => binds tg x δ fun δ' => wB S.G t { k with nx := R } δ' b) (xs.drop i) δ b k.nx, ⟨xs.length, δ, b1, R1, J1, Sub.refl _, by omega, q⟩, fun i m σ2 H2 ⟨δ2, b2, R2, I2, s2, hm, w2⟩ => ?_⟩
    cases hd : xs[i]? with
    | none =>
      have hl : xs.length ≤ i := List.getElem?_eq_none_iff.mp hd
      have e : i = xs.length := by omega
      rw [List.drop_eq_nil_of_le hl] at w2
      refine .inl ⟨?_, o.nx δ2 b2 σ2 R2 H2 I2 w2⟩
      rw [e]
      exact wk.stop R2 H2 s2 I2.sub trivial
    | some d =>
      obtain ⟨hl, he⟩ := List.getElem?_eq_some_iff.mp hd
      rw [List.drop_eq_getElem_cons hl, he] at w2
      obtain ⟨g1, g2⟩ := wk.go i R2 H2 d s2 I2.sub trivial hd
      refine .inr ⟨g1, fun σ' H' => ∃ m', m' < m ∧ ∃ δ b R, ER X.K S.bc en δ b σ' R H' ∧ Sub R1 R ∧ (i + 1) + m' = xs.length ∧ wfor (fun x δ b R => binds tg x δ fun δ' => wB S.G t { k with nx := R } δ' b) (xs.drop (i + 1)) δ b k.nx, fun _ _ h => h, fun x H' yl => ?_⟩
      obtain ⟨R', gr, rx⟩ := g2 x H' yl
      have I3 := I2.grow gr
      have w2' : binds tg d δ2 fun δ' => wB S.G t { k with nx := fun δ' b' => wfor (fun x δ b R => binds tg x δ fun δ' => wB S.G t { k with nx := R } δ' b) (xs.drop (i + 1)) δ' b' k.nx } δ' b2 := w2
      refine tg_take I3 (fun _ _ => rfl) rx w2' fun σ3 δ3 u v eσ I4 w3 => ?_
      refine ⟨⟨en.H0, R', en.b0⟩, δ3, b2, R', _, I4.rebase, w3, ⟨fun δ' b' σ' R4 H4 J' h2 => ?_, fun d' b' v' R4 H4 r => o.rt d' b' v' R4 H4 (r.unbase I4), fun c δ' σ' R4 H4 hh J' => o.ex c δ' σ' R4 H4 hh (I4.unbase J')⟩⟩
      exact ⟨xs.length - (i + 1), by omega, δ', b', R4, I4.unbase J', (s2.trans gr.rr).trans J'.stp.rr, by omega, h2⟩
end
end LK

/-! Statements: own lists. -/
namespace LK
open PySem PySem.Spec PyProof.Rows L2
section
variable {S : Sy} {en : En} {N : List Str} {sc : Scope} {X : Cx} {W : WX} {lv : Nat} {ow : Bool} {y z o : Expr} {e a c : Ex} {pos p2 : Pos}
theorem gS_app (C : CS S N sc X W lv) {i : Nat} {ap cp : Pos} (h : chkV N sc i y = true) (hl : (ap.endLine == cp.line) = true) (hz : ordX z = true) (he : PE X z (GE X.K S en W e)) : PS X (.Expr (.Call (.Attribute y "append" ap) [z] [] cp) pos) (GS X.K S en W ow (.app i e)) := by
  have hbase : ∀ whole, attributeBase y "append" X.env whole = whole := fun whole => by
    obtain ⟨s, q, rfl⟩ := chkV_inv h
    rfl
  have hs := star_of hz [] X.env
  refine psImp (ps_expr (pe_bm PySem.F.plainAttrs_list PySem.F.slot_list_append PySem.F.type_list_append mt_append (pe_slot C.toCK h) (pa_cons he pa_nil hs) (hbase _) (by rw [hs]; rfl) hl hs rfl)) fun D σ H ⟨δ, b, R, k, I, w, o⟩ => ?_
  have w' : (match gt δ i with
    | .ow ds => wE S.G e δ b (fun d b1 => ds.length < 1000000 ∧ k.nx (st δ i (.ow (ds ++ [d]))) b1) (fun c => k.ex c δ)
    | _ => False) := w
  cases hg : gt δ i with
  | no => rw [hg] at w'; exact w'.elim
  | vl _ => rw [hg] at w'; exact w'.elim
  | ow ds =>
    rw [hg] at w'
    obtain ⟨p, xs, h1, oa, h2, h3, h4⟩ := I.owl hg
    refine ⟨_, h1, .inl ⟨rfl, _, SqL.of h2⟩, δ, b, R, _, _, I, w', fun d b1 v R1 H1 J st r q => ?_, o.eok⟩
    obtain ⟨p', xs', e1, oa', e2, e3, _⟩ := J.owl hg
    rw [h1] at e1
    cases e1
    exact ⟨p, xs', v, rfl, rfl, e2, big_lt (by rw [e3.length]; exact q.1), o.nx _ b1 σ R1 _ (J.turn oa' (e3.append (Rps.one r))) q.2⟩
theorem gS_ext (C : CS S N sc X W lv) {i : Nat} {ap cp : Pos} (h : chkV N sc i y = true) (hl : (ap.endLine == cp.line) = true) (hz : ordX z = true) (he : PE X z (GE X.K S en W e)) : PS X (.Expr (.Call (.Attribute y "extend" ap) [z] [] cp) pos) (GS X.K S en W ow (.ext i e)) := by
  have hbase : ∀ whole, attributeBase y "extend" X.env whole = whole := fun whole => by
    obtain ⟨s, q, rfl⟩ := chkV_inv h
    rfl
  have hs := star_of hz [] X.env
  refine psImp (ps_expr (pe_bm PySem.F.plainAttrs_list PySem.F.slot_list_extend PySem.F.type_list_extend mt_extend (pe_slot C.toCK h) (pa_cons he pa_nil hs) (hbase _) (by rw [hs]; rfl) hl hs rfl)) fun D σ H ⟨δ, b, R, k, I, w, o⟩ => ?_
  have w' : (match gt δ i with
    | .ow ds => wE S.G e δ b (fun d b1 => match d with
      | .lst es => ds.length + es.length ≤ 1000000 ∧ k.nx (st δ i (.ow (ds ++ es))) b1
      | _ => False) (fun c => k.ex c δ)
    | _ => False) := w
  cases hg : gt δ i with
  | no => rw [hg] at w'; exact w'.elim
  | vl _ => rw [hg] at w'; exact w'.elim
  | ow ds =>
    rw [hg] at w'
    obtain ⟨p, xs, h1, oa, h2, h3, h4⟩ := I.owl hg
    refine ⟨_, h1, .inl ⟨rfl, _, SqL.of h2⟩, δ, b, R, _, _, I, w', fun d b1 v R1 H1 J st r q => ?_, o.eok⟩
    cases d <;> first | exact q.elim | skip
    obtain ⟨p', xs', e1, oa', e2, e3, _⟩ := J.owl hg
    rw [h1] at e1
    cases e1
    cases r with
    | @lst pb zs es r1 r2 => exact ⟨p, pb, xs', zs, rfl, rfl, e2, J.sub _ _ r1, big_ok (by rw [e3.length, r2.length]; exact q.1), o.nx _ b1 σ R1 _ (J.turn oa' (e3.append r2)) q.2⟩
theorem gS_seti (C : CS S N sc X W lv) {i : Nat} {q1 : Expr} (h : chkV N sc i o = true) (hz : ordX q1 = true) (hk : PE X q1 (GE X.K S en W a)) (he : PE X z (GE X.K S en W e)) : PS X (.Assign [.Subscript o q1 p2] z pos) (GS X.K S en W ow (.seti i a e)) := by
  refine psImp (ps_asg he (pg_sub (pe_slot C.toCK h) hk set_list (by intro _; cases q1 <;> first | rfl | exact Bool.noConfusion hz)) (by cases z <;> rfl) (by cases z <;> rfl) rfl) fun D σ H ⟨δ, b, R, k, I, w, o⟩ => ?_
  refine ⟨δ, b, R, _, _, I, w, fun d b1 v R1 H1 J st r q => ?_, o.eok⟩
  have q' : (match gt δ i with
    | .ow ds => wE S.G a δ b1 (fun x b2 => match x with
      | .int j => ∃ m, L2.ixN ds.length j = some m ∧ k.nx (LK.st δ i (.ow (ds.set m d))) b2
      | _ => False) (fun c => k.ex c δ)
    | _ => False) := q
  cases hg : gt δ i with
  | no => rw [hg] at q'; exact q'.elim
  | vl _ => rw [hg] at q'; exact q'.elim
  | ow ds =>
    rw [hg] at q'
    obtain ⟨p, xs, h1, oa, h2, h3, h4⟩ := J.owl hg
    refine ⟨_, h1, δ, b1, R1, _, _, J, q', fun x b2 v2 R2 H2 J2 st2 r2 q2 => ?_, o.eok⟩
    cases x <;> first | exact q2.elim | skip
    cases r2
    obtain ⟨m, hm, q2⟩ := q2
    obtain ⟨p', xs', e1, oa', e2, e3, _⟩ := J2.owl hg
    rw [h1] at e1
    cases e1
    exact ⟨p, xs', _, m, rfl, rfl, e2, by rw [e3.length]; exact hm, o.nx _ b2 σ R2 _ (J2.turn oa' (Rps.set (r.mono st2.st.rr) m e3)) q2⟩
end
end LK

/-! Statements: try. -/
namespace LK
open PySem PySem.Spec PyProof.Rows L2
theorem pssExP {X : Cx} {α : Type} {ys : List Stmt} {t : α → TS} (h : ∀ a, PSs X ys (t a)) : PSs X ys (fun D σ H => ∃ a, t a D σ H) := ⟨fun pins s σ H D I ⟨a, hw⟩ => (h a).run pins s σ H D I hw⟩
theorem pssAnd {X : Cx} {p : Prop} {ys : List Stmt} {t : TS} (h : p → PSs X ys t) : PSs X ys (fun D σ H => p ∧ t D σ H) := ⟨fun pins s σ H D I ⟨a, hw⟩ => (h a).run pins s σ H D I hw⟩
theorem peLen {X : Cx} {y : Expr} {t : TE} (h : PE X y t) : PE X y (fun σ H Q => σ.length = X.N.length → t σ H Q) := ⟨fun pins s σ H Q I hw => h.run pins s σ H Q I (hw I.len)⟩
theorem pssLen {X : Cx} {y : List Stmt} {t : TS} (h : PSs X y t) : PSs X y (fun D σ H => σ.length = X.N.length → t D σ H) := ⟨fun pins s σ H Q I hw => h.run pins s σ H Q I (hw I.len)⟩
theorem cst_any {d : D} {x : Expr} (h : chkK d x = true) : ∃ v, (∀ X, PE X x (tC v)) ∧ ∀ K R, Rp K R v d := by
  unfold chkK at h
  split at h
  · split at h
    · exact ⟨.non, fun X => pe_non, fun _ _ => .non⟩
    · rename_i b c
      have e : b = c := by simpa using h
      subst e
      exact ⟨.bl b, fun X => pe_bl, fun _ _ => .bl _⟩
    · rename_i i j
      have e : i = j := by simpa using h
      subst e
      exact ⟨.int i, fun X => pe_int, fun _ _ => .int _⟩
    · rename_i s t
      have e : s = t := by simpa using h
      subst e
      exact ⟨.str s, fun X => pe_str, fun _ _ => .str _⟩
    · cases h
  · cases h
section
variable {S : Sy} {en : En} {N : List Str} {sc : Scope} {X : Cx} {W : WX} {lv : Nat} {ow : Bool} {y z o : Expr} {e a c : Ex} {pos p2 : Pos}
theorem chkK_lc {d : D} {x : Expr} (h : chkK d x = true) (t : Option Expr) (l : Nat) (env : PySem.Env) : swapsWith x t l env = pure false := by
  unfold chkK at h
  split at h
  · rfl
  · cases h
/-- a clause without a name -/
theorem hd_none {ow : Bool} (C : CS S N sc X W lv) {h : Hd} {ss : List Stmt} (hc : chkHd N sc h none ss = true) : ∃ b₀ suite ts, ss = b₀ :: suite ∧ (∀ (A : Addr) (pn : List (Addr × Obj)), PSs (X.suite A pn) ss ts) ∧
    ∀ {en : En} {k : Kt} {D : Ends} {δ : Env} {σ : L2.St} {R H : Hp}, ER X.K S.bc en δ none σ R H → wHd h k δ → KO X.K S en W ow k D → ts D σ H := by
  have hnd : X.N.Nodup := by rw [C.n]; exact C.nd
  cases h with
  | set i d =>
    simp only [chkHd, Option.isNone_none, Bool.true_and] at hc
    split at hc
    · simp only [Bool.and_eq_true] at hc
      obtain ⟨s, py, rfl, hN, hl⟩ := chkL_inv hc.1
      obtain ⟨v, pv, rv⟩ := cst_any hc.2
      refine ⟨_, _, _, rfl, fun A pn => pss_one (ps_set (X := X.suite A pn) hnd (by show X.N[i]? = _; rw [C.n]; exact hN) (C.loc hl) (pv _) (chkK_lc hc.2 _ _ _) (.inl (C.fn s))), fun {en k D δ σ R H} I w ko => ?_⟩
      exact ko.nx _ _ _ R H (I.setV (rv _ _)) w
    · cases hc
  | inc i =>
    simp only [chkHd, Option.isNone_none, Bool.true_and] at hc
    split at hc
    · simp only [Bool.and_eq_true] at hc
      obtain ⟨s, py, rfl, hN, hl⟩ := chkL_inv hc.1
      obtain ⟨s2, py2, rfl⟩ := chkV_inv hc.2
      have hv := hc.2
      simp only [chkV, Bool.and_eq_true, decide_eq_true_eq] at hv
      obtain ⟨d1, d2, _⟩ := okN hv.2
      refine ⟨_, _, _, rfl, fun A pn => pss_one (ps_set (X := X.suite A pn) hnd (by show X.N[i]? = _; rw [C.n]; exact hN) (C.loc hl) (pe_op op_add (pe_var (i := i) (by show X.N[i]? = _; rw [C.n]; exact hv.1.1) (C.vis hv.1.2) d1 d2) pe_int) (by rfl) (.inl (C.fn s))), fun {en k D δ σ R H} I w ko => ?_⟩
      have w' : (match gt δ i with
        | .vl (.int n) => k.nx (LK.st δ i (.vl (.int (n + 1)))) none
        | _ => False) := w
      cases hg : gt δ i with
      | no => rw [hg] at w'; exact w'.elim
      | ow _ => rw [hg] at w'; exact w'.elim
      | vl d =>
        rw [hg] at w'
        cases d <;> first | exact w'.elim | skip
        obtain ⟨v, h1, h2⟩ := I.val hg
        cases h2
        exact ⟨_, h1, _, _, rfl, rfl, ko.nx _ _ _ R H (I.setV (.int _)) w'⟩
    · cases hc
  | incIs e i => simp [chkHd] at hc
  | retIs e => simp [chkHd] at hc
  | rais c =>
    cases ss with
    | nil => simp [chkHd] at hc
    | cons b₀ suite => exact ⟨b₀, suite, fun _ _ _ => False, rfl, fun A pn => ⟨fun pins s σ H D I h => h.elim⟩, fun {en k D δ σ R H} I w ko => w⟩
/-- isinstance(e, ValueError) in a clause's suite -/
theorem pe_isVE (C : CS S N sc X W lv) {A D : Addr} {oe : Obj} {pn : List (Addr × Obj)} {i : Nat} {g u z : Expr} {p : Pos} (cx : ExcC X.K D) (kv : PySem.W.kitOne X.K (.ref D) (.type "ValueError") = some true) (hz : Zc (.ref D) none oe) (hf : ∃ vs, oe.data = .fields vs)
    (hg : glName sc "isinstance" g = true) (hu : chkV N sc i u = true) (hv : glName sc "ValueError" z = true) : PE (X.suite A ((A, oe) :: pn)) (.Call g [u, z] [] p) (fun σ H Q => σ[i]? = some (some (.ref A)) ∧ Q (.bl true) H) := by
  obtain ⟨p0, rfl, g1, g2, g3⟩ := gln C.toCK hg
  obtain ⟨p1, rfl, v1, v2, v3⟩ := gln C.toCK hv
  obtain ⟨s, q, rfl⟩ := chkV_inv hu
  simp only [chkV, Bool.and_eq_true, decide_eq_true_eq] at hu
  obtain ⟨d1, d2, _⟩ := okN hu.2
  refine peImp (pe_callB (call_isE cx hz hf) g1 (blt_none C.toCK (by decide +kernel)) (by decide +kernel) (pa_cons (pe_var (i := i) (by show X.N[i]? = _; rw [C.n]; exact hu.1.1) (C.vis hu.1.2) d1 d2) (pa_cons (pe_bltn (v := .ty "ValueError") v1 (blt_none C.toCK (by decide +kernel)) (by decide +kernel) rfl v3 v2) pa_nil)) g3 g2) fun σ H Q ⟨h1, h2⟩ => ?_
  exact ⟨_, h1, .ty "ValueError", .type "ValueError", true, rfl, fun u r => r, kv, h2⟩
/-- a clause with a name -/
theorem hd_some (C : CS S N sc X W lv) {h : Hd} {n : Str} {ss : List Stmt} (hc : chkHd N sc h (some n) ss = true) (hw : ∀ e, h = .retIs e → ow = false) : ∃ e b₀ suite, ∃ (ts : Addr → Value → Option Addr → TS), (match h with | .incIs e' _ => some e' | .retIs e' => some e' | _ => none) = some e ∧ ss = b₀ :: suite ∧ N[e]? = some n ∧ sc.names.lookup n = some .local ∧
    (∀ (A : Addr) (oe : Obj) (cls : Value) (d : Option Addr) (pn : List (Addr × Obj)), Zc cls d oe → (∃ vs, oe.data = .fields vs) → PSs (X.suite A ((A, oe) :: pn)) ss (ts A cls d)) ∧
    ∀ {en : En} {k : Kt} {D : Ends} {δ : Env} {σ : L2.St} {R H : Hp} {c : Nat} (A : Addr), S.M.hc c = true → ER X.K S.bc en δ none σ R H → wHd h k (st δ e .no) → KO X.K S en W ow k D →
      ts A (.ref (S.ca c)) none { nx := fun σ' H' => D.nx (σ'.set e none) H', rt := D.rt, bk := fun σ' H' => D.bk (σ'.set e none) H', ct := fun σ' H' => D.ct (σ'.set e none) H' } (σ.set e (some (.ref A))) H := by
  have hnd : X.N.Nodup := by rw [C.n]; exact C.nd
  cases h with
  | set i d => simp [chkHd] at hc
  | inc i => simp [chkHd] at hc
  | rais c => simp [chkHd] at hc
  | retIs e =>
    simp only [chkHd] at hc
    split at hc
    · rename_i e0
      cases e0
      simp only [Bool.and_eq_true, decide_eq_true_eq] at hc
      obtain ⟨⟨⟨⟨c1, c2⟩, c3⟩, c4⟩, c5⟩ := hc
      refine ⟨e, _, _, fun A cls d => fun D σ H => ∃ c, (S.M.hc c = true ∧ cls = .ref (S.ca c) ∧ d = none) ∧ (σ.length = X.N.length → σ[e]? = some (some (.ref A)) ∧ D.rt (.bl true) H), rfl, rfl, c1, c2, fun A oe cls d pn hz hf => ?_, fun {en k D δ σ R H c} A hh I w ko => ?_⟩
      · refine pssExP fun c => pssAnd fun ⟨h1, h2, h3⟩ => ?_
        subst h2 h3
        have E := C.fs.ex c h1
        exact pssLen (pss_one (ps_ret (pe_isVE C E.i E.v hz hf c3 c4 c5)))
      · refine ⟨c, ⟨hh, rfl, rfl⟩, fun hl => ⟨?_, ?_⟩⟩
        · rw [List.length_set] at hl
          have h0 : e < N.length := (List.getElem?_eq_some_iff.mp c1).1
          rw [List.getElem?_set_self (by rw [hl, C.n]; exact h0)]
        · refine ko.rt (.bl true) none (.bl true) R H ?_ w
          have hw := hw e rfl
          subst hw
          unfold RetR
          rw [if_neg Bool.false_ne_true]
          exact I.ret (.bl true)
    · cases hc
  | incIs e i =>
    simp only [chkHd] at hc
    split at hc
    · rename_i e0
      cases e0
      simp only [Bool.and_eq_true, decide_eq_true_eq] at hc
      obtain ⟨⟨⟨⟨⟨⟨⟨⟨c1, c2⟩, c3⟩, c4⟩, c5⟩, c6⟩, c7⟩, c8⟩, c9⟩ := hc
      obtain ⟨s, py, rfl, hN, hl⟩ := chkL_inv c4
      obtain ⟨p0, rfl, g1, g2, g3⟩ := gln C.toCK c6
      obtain ⟨s2, py2, rfl⟩ := chkV_inv c5
      simp only [chkV, Bool.and_eq_true, decide_eq_true_eq] at c5
      obtain ⟨d1, d2, _⟩ := okN c5.2
      refine ⟨e, _, _, fun A cls d => fun D σ H => ∃ c, (S.M.hc c = true ∧ cls = .ref (S.ca c) ∧ d = none) ∧ (σ.length = X.N.length → σ[e]? = some (some (.ref A)) ∧ ∃ m, σ[i]? = some (some (.int m)) ∧ D.nx (σ.set i (some (.int (m + 1)))) H), rfl, rfl, c1, c2, fun A oe cls d pn hz hf => ?_, fun {en k D δ σ R H c} A hh I w ko => ?_⟩
      · refine pssExP fun c => pssAnd fun ⟨h1, h2, h3⟩ => ?_
        subst h2 h3
        have E := C.fs.ex c h1
        refine pssLen (pssImp (pss_one (ps_set (X := X.suite A ((A, oe) :: pn)) hnd (by show X.N[i]? = _; rw [C.n]; exact hN) (C.loc hl) (pe_op op_add (pe_var (i := i) (by show X.N[i]? = _; rw [C.n]; exact c5.1.1) (C.vis c5.1.2) d1 d2) (pe_callTy call_int1 g1 (blt_none C.toCK (by decide +kernel)) (by decide +kernel) (pa_cons (pe_isVE C E.i E.v hz hf c7 c8 c9) pa_nil) g3 g2)) (by rfl) (.inl (C.fn s)))) fun D σ H ⟨q1, m, q2, q3⟩ => ?_)
        exact ⟨_, q2, q1, .inr ⟨true, rfl, _, _, rfl, rfl, q3⟩⟩
      · refine ⟨c, ⟨hh, rfl, rfl⟩, fun hl => ⟨?_, ?_⟩⟩
        · rw [List.length_set] at hl
          have h0 : e < N.length := (List.getElem?_eq_some_iff.mp c1).1
          rw [List.getElem?_set_self (by rw [hl, C.n]; exact h0)]
        · have J : ER X.K S.bc en (LK.st δ e .no) none (σ.set e (some (.ref A))) R H := I.setN
          have w' : (match gt (LK.st δ e .no) i with
            | .vl (.int n) => k.nx (LK.st (LK.st (LK.st δ e .no) i (.vl (.int (n + 1)))) e .no) none
            | _ => False) := w
          cases hg : gt (LK.st δ e .no) i with
          | no => rw [hg] at w'; exact w'.elim
          | ow _ => rw [hg] at w'; exact w'.elim
          | vl d =>
            rw [hg] at w'
            cases d <;> first | exact w'.elim | skip
            obtain ⟨v, h1, h2⟩ := J.val hg
            cases h2
            exact ⟨_, h1, ko.nx _ _ _ R H (J.setV (.int _)).setN w'⟩
    · cases hc
/-- several clauses, no names -/
theorem hds_none {ow : Bool} (C : CS S N sc X W lv) : ∀ {hs : List (Nat × Hd)} {xs : List ExceptHandler}, chkHds S.M N sc hs xs = true → (∀ p ∈ hs, (match p.2 with | .retIs _ => False | .incIs _ _ => False | _ => True)) → ∃ l, HdsOk X xs l ∧
    ∀ {en : En} {k : Kt} {D : Ends} {δ : Env} {σ : L2.St} {R H : Hp} {c : Nat}, S.M.hc c = true → ER X.K S.bc en δ none σ R H → wHds c δ k hs → KO X.K S en W ow k D → wMany X.K W D l (.ref (S.ca c)) none σ H
  | [], [], _, _ => ⟨[], .nil, fun {en k D δ σ R H c} hh I w ko => ko.ex c δ σ R H hh I w⟩
  | [], _ :: _, h, _ => by simp [chkHds] at h
  | _ :: _, [], h, _ => by simp [chkHds] at h
  | (d, h) :: hs, .ExceptHandler none _ _ _ :: xs, hc, _ => by simp [chkHds] at hc
  | (d, h) :: hs, .ExceptHandler (some t) nm ss p :: xs, hc, hn => by
    simp only [chkHds, Bool.and_eq_true] at hc
    obtain ⟨⟨⟨c0, c1⟩, c2⟩, c3⟩ := hc
    obtain ⟨l, hl, kl⟩ := hds_none (ow := ow) C c3 fun p hp => hn p (List.mem_cons_of_mem _ hp)
    obtain ⟨p0, rfl, g1, g2, g3⟩ := gln C.toCK c1
    have E := C.fs.ex d c0
    have hnm : nm = none := by
      have h0 := hn (d, h) List.mem_cons_self
      cases h <;> first | exact h0.elim | skip
      all_goals
        simp only [chkHd, Bool.and_eq_true] at c2
        cases nm with
        | none => rfl
        | some _ => simp at c2
    subst hnm
    obtain ⟨b₀, suite, ts, rfl, q1, q2⟩ := hd_none (ow := ow) C c2
    refine ⟨(.ref (S.ca d), fun _ _ _ => ts) :: l, .cons ⟨g1, g2, .inl E.g⟩ (fun A oe cls dd pn _ _ => q1 A _) hl, fun {en k D δ σ R H c} hh I w ko => ?_⟩
    refine ⟨subC c d, C.fs.em c d hh c0, fun e A _ => ?_, fun e => ?_⟩
    · have h0 := hn (d, h) List.mem_cons_self
      unfold wHds at w
      rw [if_pos e] at w
      cases h <;> first | exact h0.elim | exact q2 I w ko
    · unfold wHds at w
      rw [e, if_neg Bool.false_ne_true] at w
      exact kl hh I w ko
/-- try with clauses that have no names -/
theorem gS_tri (C : CS S N sc X W lv) {t : Sms} {ys : List Stmt} {hs : List (Nat × Hd)} {x : ExceptHandler} {xs : List ExceptHandler} (hc : chkHds S.M N sc hs (x :: xs) = true) (hn : ∀ p ∈ hs, (match p.2 with | .retIs _ => False | .incIs _ _ => False | _ => True))
    (ht : ∀ {X : Cx} {W : WX}, CS S N sc X W lv → PSs X ys (GB X.K S en W ow t)) : PS X (.Try ys (x :: xs) [] [] pos) (GS X.K S en W ow (.tri t hs)) := by
  obtain ⟨l, hl, kl⟩ := hds_none (ow := ow) C hc hn
  refine psImp (ps_try_many C.stk C.fr C.tk (tb := fun W => GB X.K S en W ow t) (fun W' pn xe tk pa => ht (X := X.tr pn xe) { fs := C.fs, calm := C.calm, n := C.n, nd := C.nd, sc := C.sc, tk := tk, room := C.room, fn := C.fn, stk := C.stk, fr := C.fr, pa := pa, kind := C.kind }) hl) fun D σ H ⟨δ, b, R, k, I, w, o⟩ => ?_
  exact ⟨δ, b, R, _, I, w, ⟨o.nx, o.rt, fun c δ' σ' R' H' hh I' w' => kl hh I' w' o⟩⟩
/-- try with one clause that has a name -/
theorem gS_triAs (C : CS S N sc X W lv) {t : Sms} {ys : List Stmt} {d : Nat} {h : Hd} {x : ExceptHandler} (hc : chkHds S.M N sc [(d, h)] [x] = true) (hn : (match h with | .retIs _ => True | .incIs _ _ => True | _ => False)) (hw : ∀ e, h = .retIs e → ow = false)
    (ht : ∀ {X : Cx} {W : WX}, CS S N sc X W lv → PSs X ys (GB X.K S en W ow t)) : PS X (.Try ys [x] [] [] pos) (GS X.K S en W ow (.tri t [(d, h)])) := by
  obtain ⟨ty, nm, ss, p⟩ := x
  cases ty with
  | none => simp [chkHds] at hc
  | some ty =>
    simp only [chkHds, Bool.and_eq_true, and_true] at hc
    obtain ⟨⟨c0, c1⟩, c2⟩ := hc
    obtain ⟨p0, rfl, g1, g2, g3⟩ := gln C.toCK c1
    have E := C.fs.ex d c0
    cases nm with
    | none => cases h <;> first | exact hn.elim | simp [chkHd] at c2
    | some n =>
      obtain ⟨e, b₀, suite, ts, he, rfl, n1, n2, q1, q2⟩ := hd_some (ow := ow) (W := W) C c2 hw
      refine psImp (ps_try_as C.stk C.fr (by rw [C.n]; exact C.nd) (by show X.N[e]? = _; rw [C.n]; exact n1) (by show X.env.scope.names.lookup n = _; rw [C.sc]; exact n2) ⟨g1, g2, .inl E.g⟩ C.tk (tb := fun W => GB X.K S en W ow t) (fun W' pn xe tk pa => ht (X := X.tr pn xe) { fs := C.fs, calm := C.calm, n := C.n, nd := C.nd, sc := C.sc, tk := tk, room := C.room, fn := C.fn, stk := C.stk, fr := C.fr, pa := pa, kind := C.kind }) q1) fun D σ H ⟨δ, b, R, k, I, w, o⟩ => ?_
      refine ⟨δ, b, R, _, I, w, ⟨o.nx, o.rt, fun c δ' σ' R' H' hh I' w' => ?_⟩⟩
      refine ⟨subC c d, C.fs.em c d hh c0, fun e1 A _ => ?_, fun e1 => ?_⟩
      · refine q2 A hh I' ?_ o
        unfold wHds at w'
        rw [if_pos e1] at w'
        cases h <;> first | exact hn.elim | (cases he; exact w')
      · unfold wHds at w'
        rw [e1, if_neg Bool.false_ne_true] at w'
        exact o.ex c δ' σ' R' H' hh I' w'
end
end LK

/-! Statements: the object. -/
namespace LK
open PySem PySem.Spec PyProof.Rows L2
section
variable {K : PySem.W.Frag} {bc : Addr} {en : En} {δ : Env} {b : Ob} {σ : L2.St} {R H : Hp} {p : Addr} {B B' : Bd} {a a' : BdA}
/-- what the object may turn was not there at the entry, or was the object's -/
theorem ER.bo0 (I : ER K bc en δ b σ R H) {q : Addr} (h : Bo bc b H q) {o : HO} (e : en.H0 q = some o) : Bo bc en.b0 en.H0 q := by
  rcases I.stp.bo q h with z | z
  · exact z
  · rw [e] at z; cases z
/-- the object, or a list of its own, is written: q, what is new of the object's, is new since the entry -/
theorem ER.wr (I : ER K bc en δ (some (p, B)) σ R H) (r : BdR K bc R H p B a) {w : Addr} {o : HO} (hw : w ∈ a.own p B.ro) (r' : BdR K bc R (upd H w o) p B' a')
    (hn : ∀ q ∈ a'.own p B'.ro, q ∈ a.own p B.ro ∨ (en.H0 q = none ∧ ∀ i, ¬ OwnAt δ σ i q)) : ER K bc en δ (some (p, B')) σ R (upd H w o) := by
  have bw : Bo bc (some (p, B)) H w := (Bo.iff r).mpr hw
  obtain ⟨rw0, nw, ⟨u, hu⟩⟩ := I.bo_no bw
  refine ⟨I.len, fun c u e => ?_, ⟨I.stp.rr, I.stp.old, fun c u e => ?_, fun c u e n => ?_, fun c z => ?_⟩, fun j u e => ?_, I.own, I.dis, fun p1 B1 e => ?_⟩
  · rw [upd_ne (ne_of_none e rw0)]
    exact I.sub c u e
  · by_cases hc : c = w
    · subst hc
      exact ⟨_, upd_same⟩
    · rw [upd_ne hc]
      exact I.stp.dom c u e
  · by_cases hc : c = w
    · subst hc
      exact absurd (I.bo0 bw e) n
    · rw [upd_ne hc]
      exact I.stp.out c u e n
  · rw [Bo.iff r'] at z
    rcases hn c z with h | h
    · exact I.stp.bo c ((Bo.iff r).mpr h)
    · exact .inr h.1
  · have h := I.sl j u e
    cases hg : gt δ j with
    | no => exact .no
    | vl d =>
      rw [hg] at h
      cases h with
      | vl r => exact .vl r
    | ow fs =>
      rw [hg] at h
      cases h with
      | ow h1 h2 h3 =>
        refine .ow ?_ h2 h3
        rw [upd_ne]
        · exact h1
        · rintro rfl
          exact nw j ⟨fs, hg, e⟩
  · cases e
    refine ⟨a', r', fun i q o hq => ?_⟩
    rcases hn q hq with h | h
    · obtain ⟨a2, r2, n2⟩ := I.bd p B rfl
      have e2 := bdFs_inj (Option.some.inj (r2.ins.symm.trans r.ins))
      subst e2
      exact n2 i q o h
    · exact h.2 i o
theorem BdR.np (r : BdR K bc R H p B a) : p ≠ a.ph ∧ p ≠ a.pt ∧ p ≠ a.pr := by
  obtain ⟨x1, h1, _⟩ := r.hd
  obtain ⟨x2, h2, _⟩ := r.tl
  obtain ⟨x3, h3, _⟩ := r.rw
  have h0 := r.ins
  refine ⟨fun e => ?_, fun e => ?_, fun e => ?_⟩
  · rw [e, h1] at h0; cases h0
  · rw [e, h2] at h0; cases h0
  · rw [e, h3] at h0; cases h0
theorem BdR.in_ (r : BdR K bc R H p B a) : p ∈ a.own p B.ro ∧ a.ph ∈ a.own p B.ro ∧ a.pt ∈ a.own p B.ro ∧ (B.ro = true → a.pr ∈ a.own p B.ro) := by
  unfold BdA.own
  cases B.ro <;> simp
theorem BdR.df (r : BdR K bc R H p B a) : a.ph ≠ a.pt ∧ a.ph ≠ a.pr ∧ a.pt ≠ a.pr := by
  have nd := r.nd
  cases hro : B.ro with
  | true =>
    rw [hro] at nd
    simp only [BdA.own, if_pos rfl] at nd
    simp only [if_true, List.nodup_cons, List.mem_cons, List.not_mem_nil, or_false, not_or] at nd
    exact ⟨nd.2.1.1, nd.2.1.2, nd.2.2.1⟩
  | false =>
    rw [hro] at nd
    simp only [BdA.own] at nd
    simp only [Bool.false_eq_true, if_false, List.nodup_cons, List.mem_cons, List.not_mem_nil, or_false, not_or] at nd
    obtain ⟨xs, h⟩ := r.fz hro
    have n1 := r.nr a.ph r.in_.2.1
    have n2 := r.nr a.pt r.in_.2.2.1
    exact ⟨nd.2.1, (ne_of_none h n1).symm, (ne_of_none h n2).symm⟩
/-- a list of the object's is written -/
theorem BdR.wHeads (r : BdR K bc R H p B a) {xs : List V} {ds : List D} (q : Rps K R xs ds) : BdR K bc R (upd H a.ph (.lst xs)) p { B with heads := ds } a := by
  obtain ⟨n1, n2, n3⟩ := r.np
  obtain ⟨d1, d2, d3⟩ := r.df
  obtain ⟨x2, h2, q2⟩ := r.tl
  obtain ⟨x3, h3, q3⟩ := r.rw
  exact ⟨by rw [upd_ne n1]; exact r.ins, ⟨xs, upd_same, q⟩, ⟨x2, by rw [upd_ne d1.symm]; exact h2, q2⟩, ⟨x3, by rw [upd_ne d2.symm]; exact h3, q3⟩, r.gl, r.fz, r.nr, r.nd⟩
theorem BdR.wTails (r : BdR K bc R H p B a) {xs : List V} {ds : List D} (q : Rps K R xs ds) : BdR K bc R (upd H a.pt (.lst xs)) p { B with tails := ds } a := by
  obtain ⟨n1, n2, n3⟩ := r.np
  obtain ⟨d1, d2, d3⟩ := r.df
  obtain ⟨x2, h2, q2⟩ := r.hd
  obtain ⟨x3, h3, q3⟩ := r.rw
  exact ⟨by rw [upd_ne n2]; exact r.ins, ⟨x2, by rw [upd_ne d1]; exact h2, q2⟩, ⟨xs, upd_same, q⟩, ⟨x3, by rw [upd_ne d3.symm]; exact h3, q3⟩, r.gl, r.fz, r.nr, r.nd⟩
theorem BdR.wRows (r : BdR K bc R H p B a) {xs : List V} {ds : List D} (q : Rps K R xs ds) : BdR K bc R (upd H a.pr (.lst xs)) p { B with rows := ds } a := by
  obtain ⟨n1, n2, n3⟩ := r.np
  obtain ⟨d1, d2, d3⟩ := r.df
  obtain ⟨x2, h2, q2⟩ := r.hd
  obtain ⟨x3, h3, q3⟩ := r.tl
  exact ⟨by rw [upd_ne n3]; exact r.ins, ⟨x2, by rw [upd_ne d2]; exact h2, q2⟩, ⟨x3, by rw [upd_ne d3]; exact h3, q3⟩, ⟨xs, upd_same, q⟩, r.gl, r.fz, r.nr, r.nd⟩
/-- a field is set to a list of nobody's -/
theorem BdR.sHeads (r : BdR K bc R H p B a) {q : Addr} {xs : List V} {ds : List D} (hq : H q = some (.lst xs)) (rq : Rps K R xs ds) (nr : R q = none) (nb : q ∉ a.own p B.ro) : BdR K bc R (upd H p (.ins bc a.dx (bdFs { a with ph := q }))) p { B with heads := ds } { a with ph := q } := by
  obtain ⟨n1, n2, n3⟩ := r.np
  obtain ⟨x2, h2, q2⟩ := r.tl
  obtain ⟨x3, h3, q3⟩ := r.rw
  have nqp : q ≠ p := fun e => nb (by rw [e]; exact r.in_.1)
  refine ⟨upd_same, ⟨xs, by rw [upd_ne nqp]; exact hq, rq⟩, ⟨x2, by rw [upd_ne n2.symm]; exact h2, q2⟩, ⟨x3, by rw [upd_ne n3.symm]; exact h3, q3⟩, r.gl, r.fz, fun c hc => ?_, ?_⟩
  · have h := r.nr
    unfold BdA.own at h hc
    dsimp only at hc
    cases hro : B.ro <;> rw [hro] at h hc <;> simp only [Bool.false_eq_true, if_false, if_true, List.mem_cons, List.not_mem_nil, or_false] at h hc
    · rcases hc with rfl | rfl | rfl
      · exact h _ (.inl rfl)
      · exact nr
      · exact h _ (.inr (.inr rfl))
    · rcases hc with rfl | rfl | rfl | rfl
      · exact h _ (.inl rfl)
      · exact nr
      · exact h _ (.inr (.inr (.inl rfl)))
      · exact h _ (.inr (.inr (.inr rfl)))
  · have h := r.nd
    unfold BdA.own at h nb ⊢
    dsimp only
    cases hro : B.ro <;> rw [hro] at h nb <;> simp only [Bool.false_eq_true, if_false, if_true, List.nodup_cons, List.mem_cons, List.not_mem_nil, or_false, not_or] at h nb ⊢
    · exact ⟨⟨Ne.symm nb.1, h.1.2⟩, nb.2.2, by simp⟩
    · exact ⟨⟨Ne.symm nb.1, h.1.2⟩, ⟨nb.2.2.1, nb.2.2.2⟩, h.2.2⟩
theorem BdR.sTails (r : BdR K bc R H p B a) {q : Addr} {xs : List V} {ds : List D} (hq : H q = some (.lst xs)) (rq : Rps K R xs ds) (nr : R q = none) (nb : q ∉ a.own p B.ro) : BdR K bc R (upd H p (.ins bc a.dx (bdFs { a with pt := q }))) p { B with tails := ds } { a with pt := q } := by
  obtain ⟨n1, n2, n3⟩ := r.np
  obtain ⟨x2, h2, q2⟩ := r.hd
  obtain ⟨x3, h3, q3⟩ := r.rw
  have nqp : q ≠ p := fun e => nb (by rw [e]; exact r.in_.1)
  refine ⟨upd_same, ⟨x2, by rw [upd_ne n1.symm]; exact h2, q2⟩, ⟨xs, by rw [upd_ne nqp]; exact hq, rq⟩, ⟨x3, by rw [upd_ne n3.symm]; exact h3, q3⟩, r.gl, r.fz, fun c hc => ?_, ?_⟩
  · have h := r.nr
    unfold BdA.own at h hc
    dsimp only at hc
    cases hro : B.ro <;> rw [hro] at h hc <;> simp only [Bool.false_eq_true, if_false, if_true, List.mem_cons, List.not_mem_nil, or_false] at h hc
    · rcases hc with rfl | rfl | rfl
      · exact h _ (.inl rfl)
      · exact h _ (.inr (.inl rfl))
      · exact nr
    · rcases hc with rfl | rfl | rfl | rfl
      · exact h _ (.inl rfl)
      · exact h _ (.inr (.inl rfl))
      · exact nr
      · exact h _ (.inr (.inr (.inr rfl)))
  · have h := r.nd
    unfold BdA.own at h nb ⊢
    dsimp only
    cases hro : B.ro <;> rw [hro] at h nb <;> simp only [Bool.false_eq_true, if_false, if_true, List.nodup_cons, List.mem_cons, List.not_mem_nil, or_false, not_or] at h nb ⊢
    · exact ⟨⟨h.1.1, Ne.symm nb.1⟩, Ne.symm nb.2.1, by simp⟩
    · exact ⟨⟨h.1.1, Ne.symm nb.1, h.1.2.2⟩, ⟨Ne.symm nb.2.1, h.2.1.2⟩, nb.2.2.2, by simp⟩
theorem BdR.sRows (r : BdR K bc R H p B a) {q : Addr} {xs : List V} {ds : List D} (hq : H q = some (.lst xs)) (rq : Rps K R xs ds) (nr : R q = none) (nb : q ∉ a.own p B.ro) : BdR K bc R (upd H p (.ins bc a.dx (bdFs { a with pr := q }))) p { B with rows := ds, ro := true } { a with pr := q } := by
  obtain ⟨n1, n2, n3⟩ := r.np
  obtain ⟨x2, h2, q2⟩ := r.hd
  obtain ⟨x3, h3, q3⟩ := r.tl
  have nqp : q ≠ p := fun e => nb (by rw [e]; exact r.in_.1)
  refine ⟨upd_same, ⟨x2, by rw [upd_ne n1.symm]; exact h2, q2⟩, ⟨x3, by rw [upd_ne n2.symm]; exact h3, q3⟩, ⟨xs, by rw [upd_ne nqp]; exact hq, rq⟩, r.gl, (fun e => by cases e), fun c hc => ?_, ?_⟩
  · have h := r.nr
    simp only [BdA.own, if_true, List.mem_cons, List.not_mem_nil, or_false] at hc
    obtain ⟨i1, i2, i3, _⟩ := r.in_
    rcases hc with rfl | rfl | rfl | rfl
    · exact h _ i1
    · exact h _ i2
    · exact h _ i3
    · exact nr
  · obtain ⟨d1, d2, d3⟩ := r.df
    obtain ⟨i1, i2, i3, _⟩ := r.in_
    simp only [BdA.own, if_true, List.nodup_cons, List.mem_cons, List.not_mem_nil, or_false, not_or]
    exact ⟨⟨n1, n2, nqp.symm⟩, ⟨d1, fun e => nb (by rw [← e]; exact i2)⟩, fun e => nb (by rw [← e]; exact i3), by simp⟩
/-- the goal is set to a kept list -/
theorem BdR.sGoal (r : BdR K bc R H p B a) {q : Addr} {xs : List V} {ds : List D} (hq : R q = some (.lst xs)) (rq : Rps K R xs ds) : BdR K bc R (upd H p (.ins bc a.dx (bdFs { a with pg := q }))) p { B with goal := ds } { a with pg := q } := by
  obtain ⟨n1, n2, n3⟩ := r.np
  obtain ⟨x1, h1, q1⟩ := r.hd
  obtain ⟨x2, h2, q2⟩ := r.tl
  obtain ⟨x3, h3, q3⟩ := r.rw
  exact ⟨upd_same, ⟨x1, by rw [upd_ne n1.symm]; exact h1, q1⟩, ⟨x2, by rw [upd_ne n2.symm]; exact h2, q2⟩, ⟨x3, by rw [upd_ne n3.symm]; exact h3, q3⟩, ⟨xs, hq, rq⟩, r.fz, r.nr, r.nd⟩
end
section
variable {S : Sy} {en : En} {N : List Str} {sc : Scope} {X : Cx} {W : WX} {lv : Nat} {ow : Bool} {y z o : Expr} {e a c : Ex} {pos p2 : Pos}
theorem ER.bdA {K : PySem.W.Frag} {bc : Addr} {δ : Env} {σ : L2.St} {R H : Hp} {p : Addr} {B : Bd} (I : ER K bc en δ (some (p, B)) σ R H) {a : BdA} (h : H p = some (.ins bc a.dx (bdFs a))) : BdR K bc R H p B a := by
  obtain ⟨a2, r2, _⟩ := I.bd p B rfl
  have e2 := bdFs_inj (Option.some.inj (r2.ins.symm.trans h))
  subst e2
  exact r2
theorem fld_rd (C : CS S N sc X W lv) {f : Fl} {v : Nat} {x : Expr} (h : chkF S.M N sc f v x = true) {δ : Env} {σ : L2.St} {R H : Hp} {p : Addr} {B : Bd} (I : ER X.K S.bc en δ (some (p, B)) σ R H) (hg : gt δ v = .vl (.brd p)) :
    ∃ a, BdR X.K S.bc R H p B a ∧ ∀ Q : VK, Q (.ref (fadr a f)) H → tFld X.K (tVar v) (flName f) σ H Q := by
  obtain ⟨hbd, _⟩ := chkF_inv h
  have F := C.fs.bd hbd
  obtain ⟨u, h1, h2⟩ := I.val hg
  cases h2
  obtain ⟨a, r, _⟩ := I.bd p B rfl
  exact ⟨a, r, fun Q q => ⟨.ref p, h1, p, S.bc, a.dx, bdFs a, _, rfl, r.ins, F.c, F.n f, fs_look a f, q⟩⟩
theorem gS_fsetix (C : CS S N sc X W lv) {f : Fl} {v : Nat} {q1 : Expr} (h : chkF S.M N sc f v o = true) (hq : quiet a = true) (hz : ordX q1 = true) (hk : PE X q1 (GE X.K S en W a)) (he : PE X z (GE X.K S en W e)) : PS X (.Assign [.Subscript o q1 p2] z pos) (GS X.K S en W ow (.fsetix f v a e)) := by
  refine psImp (ps_asg he (pg_sub (pe_field C.toCK h) hk set_list (by intro _; cases q1 <;> first | rfl | exact Bool.noConfusion hz)) (by cases z <;> rfl) (by cases z <;> rfl) rfl) fun D σ H ⟨δ, b, R, k, I, w, ko⟩ => ?_
  refine ⟨δ, b, R, _, _, I, w, fun d b1 u R1 H1 J st r q => ?_, ko.eok⟩
  obtain ⟨p, B, hg, hb, q⟩ := theB_inv q
  subst hb
  obtain ⟨a', r1, h3⟩ := fld_rd C h J hg
  refine h3 _ ⟨δ, _, R1, _, _, J, q, fun x b2 v2 R2 H2 J2 st2 r2 q2 => ?_, ko.eok⟩
  have eb := st2.qb hq
  subst eb
  have hs := st2.qs hq
  have r3 : BdR X.K S.bc R2 H2 p B a' := J2.bdA (hs _ _ r1.ins)
  have rd := r.mono st2.st.rr
  cases f with
  | goal => cases x <;> exact q2.elim
  | heads =>
    cases x <;> first | exact q2.elim | skip
    cases r2
    obtain ⟨m, hm, q2⟩ := q2
    obtain ⟨xs, h4, h5⟩ := r3.hd
    exact ⟨_, xs, _, m, rfl, rfl, h4, by rw [h5.length]; exact hm, ko.nx _ _ σ R2 _ (J2.wr r3 r3.in_.2.1 (r3.wHeads (Rps.set rd m h5)) fun q hq => .inl hq) q2⟩
  | tails =>
    cases x <;> first | exact q2.elim | skip
    cases r2
    obtain ⟨m, hm, q2⟩ := q2
    obtain ⟨xs, h4, h5⟩ := r3.tl
    exact ⟨_, xs, _, m, rfl, rfl, h4, by rw [h5.length]; exact hm, ko.nx _ _ σ R2 _ (J2.wr r3 r3.in_.2.2.1 (r3.wTails (Rps.set rd m h5)) fun q hq => .inl hq) q2⟩
  | rows =>
    cases x <;> first | exact q2.elim | skip
    cases r2
    obtain ⟨m, hro, hm, q2⟩ := q2
    obtain ⟨xs, h4, h5⟩ := r3.rw
    exact ⟨_, xs, _, m, rfl, rfl, h4, by rw [h5.length]; exact hm, ko.nx _ _ σ R2 _ (J2.wr r3 (r3.in_.2.2.2 hro) (r3.wRows (Rps.set rd m h5)) fun q hq => .inl hq) q2⟩
theorem gS_fapp (C : CS S N sc X W lv) {f : Fl} {v : Nat} {ap cp : Pos} (h : chkF S.M N sc f v y = true) (hq : quiet e = true) (hl : (ap.endLine == cp.line) = true) (hz : ordX z = true) (he : PE X z (GE X.K S en W e)) : PS X (.Expr (.Call (.Attribute y "append" ap) [z] [] cp) pos) (GS X.K S en W ow (.fapp f v e)) := by
  have hbase : ∀ whole, attributeBase y "append" X.env whole = whole := fun whole => by
    obtain ⟨_, o, q, rfl, _⟩ := chkF_inv h
    rfl
  have hs := star_of hz [] X.env
  refine psImp (ps_expr (pe_bm PySem.F.plainAttrs_list PySem.F.slot_list_append PySem.F.type_list_append mt_append (pe_field C.toCK h) (pa_cons he pa_nil hs) (hbase _) (by rw [hs]; rfl) hl hs rfl)) fun D σ H ⟨δ, b, R, k, I, w, ko⟩ => ?_
  obtain ⟨p, B, hg, hb, w⟩ := theB_inv w
  subst hb
  obtain ⟨a', r1, h3⟩ := fld_rd C h I hg
  have hl0 : ∃ xs, H (fadr a' f) = some (.lst xs) := by
    obtain ⟨xs, h4, _⟩ := r1.fl I.sub f
    exact ⟨xs, h4⟩
  obtain ⟨xs0, h40⟩ := hl0
  show tFld X.K (tVar v) (flName f) σ H (fun x H1 => tyV X.K "list" x H1 ∧ tCons (GE X.K S en W e) tNil σ H1 fun xs H2 => rAppend x xs H2 fun _ H3 => D.nx σ H3)
  refine h3 _ ⟨.inl ⟨rfl, _, SqL.of h40⟩, δ, _, R, _, _, I, w, fun d b1 u R1 H1 J st r q => ?_, ko.eok⟩
  have eb := st.qb hq
  subst eb
  have r3 : BdR X.K S.bc R1 H1 p B a' := J.bdA (st.qs hq _ _ r1.ins)
  cases f <;> first | exact q.elim | skip
  obtain ⟨xs, h4, h5⟩ := r3.tl
  exact ⟨_, xs, u, rfl, rfl, h4, big_lt (by rw [h5.length]; exact q.1), ko.nx _ _ σ R1 _ (J.wr r3 r3.in_.2.2.1 (r3.wTails (h5.append (Rps.one r))) fun q hq => .inl hq) q.2⟩
/-- o.f = value -/
theorem putF_at (a : BdA) (q : Addr) : putF "heads" (.ref q) (bdFs a) = bdFs { a with ph := q } ∧ putF "tails" (.ref q) (bdFs a) = bdFs { a with pt := q } ∧ putF "rows" (.ref q) (bdFs a) = bdFs { a with pr := q } ∧ putF "goal" (.ref q) (bdFs a) = bdFs { a with pg := q } := ⟨rfl, rfl, rfl, rfl⟩
theorem gS_fsetF (C : CS S N sc X W lv) {f : Fl} {v : Nat} (hbd : S.M.hb = true) (hf : f ≠ .goal) (h : chkV N sc v o = true) (he : PE X z (GF X.K S en W e)) : PS X (.Assign [.Attribute o (flName f) p2] z pos) (GS X.K S en W ow (.fset f v e)) := by
  have F := C.fs.bd hbd
  refine psImp (ps_fld (pe_slot C.toCK h) he (by cases z <;> rfl)) fun D σ H ⟨δ, b, R, k, I, w, ko⟩ => ?_
  refine ⟨δ, b, R, _, _, I, w, fun ds b1 q0 xs R1 H1 J st n nr nb hp r q => ?_, ko.eok⟩
  obtain ⟨p, B, hg, hb, qk⟩ := theB_inv q
  subst hb
  obtain ⟨u, g1, g2⟩ := J.val hg
  cases g2
  obtain ⟨a', r1, n1⟩ := J.bd p B rfl
  have fr := I.freG n st nr nb
  have nb' : q0 ∉ a'.own p B.ro := fun z => nb ((Bo.iff r1).mpr z)
  obtain ⟨e1, e2, e3, e4⟩ := putF_at a' q0
  refine ⟨_, g1, p, S.bc, a'.dx, bdFs a', rfl, r1.ins, F.c, F.n f, (by show 4 < 1000; decide), ?_⟩
  have nw : ∀ {a2 : BdA} {ro : Bool}, (∀ c ∈ a2.own p ro, c ∈ a'.own p B.ro ∨ c = q0) → ∀ c ∈ a2.own p ro, c ∈ a'.own p B.ro ∨ (en.H0 c = none ∧ ∀ i, ¬ OwnAt δ σ i c) := fun hh c hc => by
    rcases hh c hc with z | z
    · exact .inl z
    · subst z
      exact .inr ⟨fr.h0, fr.no⟩
  obtain ⟨i1, i2, i3, i4⟩ := r1.in_
  cases f with
  | goal => exact absurd rfl hf
  | heads =>
    show D.nx σ (upd H1 p (.ins S.bc a'.dx (putF "heads" (.ref q0) (bdFs a'))))
    rw [e1]
    refine ko.nx _ _ σ R1 _ (J.wr r1 i1 (r1.sHeads hp r nr nb') (nw fun c hc => ?_)) qk
    unfold BdA.own at hc ⊢
    cases hro : B.ro <;> rw [hro] at hc <;> simp only [Bool.false_eq_true, if_false, if_true, List.mem_cons, List.not_mem_nil, or_false] at hc ⊢
    · rcases hc with h | h | h <;> simp [h]
    · rcases hc with h | h | h | h <;> simp [h]
  | tails =>
    show D.nx σ (upd H1 p (.ins S.bc a'.dx (putF "tails" (.ref q0) (bdFs a'))))
    rw [e2]
    refine ko.nx _ _ σ R1 _ (J.wr r1 i1 (r1.sTails hp r nr nb') (nw fun c hc => ?_)) qk
    unfold BdA.own at hc ⊢
    cases hro : B.ro <;> rw [hro] at hc <;> simp only [Bool.false_eq_true, if_false, if_true, List.mem_cons, List.not_mem_nil, or_false] at hc ⊢
    · rcases hc with h | h | h <;> simp [h]
    · rcases hc with h | h | h | h <;> simp [h]
  | rows =>
    show D.nx σ (upd H1 p (.ins S.bc a'.dx (putF "rows" (.ref q0) (bdFs a'))))
    rw [e3]
    refine ko.nx _ _ σ R1 _ (J.wr r1 i1 (r1.sRows hp r nr nb') (nw fun c hc => ?_)) qk
    have hc' : c ∈ [p, a'.ph, a'.pt, q0] := hc
    simp only [List.mem_cons, List.not_mem_nil, or_false] at hc'
    rcases hc' with h | h | h | h
    · rw [h]; exact .inl i1
    · rw [h]; exact .inl i2
    · rw [h]; exact .inl i3
    · exact .inr h
theorem gS_fsetG (C : CS S N sc X W lv) {v : Nat} (hbd : S.M.hb = true) (h : chkV N sc v o = true) (he : PE X z (GE X.K S en W e)) : PS X (.Assign [.Attribute o "goal" p2] z pos) (GS X.K S en W ow (.fset .goal v e)) := by
  have F := C.fs.bd hbd
  refine psImp (ps_fld (pe_slot C.toCK h) he (by cases z <;> rfl)) fun D σ H ⟨δ, b, R, k, I, w, ko⟩ => ?_
  refine ⟨δ, b, R, _, _, I, w, fun d b1 u R1 H1 J st r q => ?_, ko.eok⟩
  obtain ⟨p, B, hg, hb, qk⟩ := theB_inv q
  subst hb
  cases d <;> first | exact qk.elim | skip
  obtain ⟨u, g1, g2⟩ := J.val hg
  cases g2
  obtain ⟨a', r1, n1⟩ := J.bd p B rfl
  cases r with
  | @lst q0 xs ds h1 h2 =>
    obtain ⟨e1, e2, e3, e4⟩ := putF_at a' q0
    refine ⟨_, g1, p, S.bc, a'.dx, bdFs a', rfl, r1.ins, F.c, F.n .goal, (by show 4 < 1000; decide), ?_⟩
    rw [e4]
    exact ko.nx _ _ σ R1 _ (J.wr r1 r1.in_.1 (r1.sGoal h1 h2) fun c hc => .inl hc) qk
theorem all_of_any {α : Type} : ∀ {l : List (Bool × α)}, l.any (·.1) = false → l.all (fun x => !x.1) = true
  | [], _ => rfl
  | (t, a) :: l, h => by
    simp only [List.any_cons, Bool.or_eq_false_iff] at h
    simp only [List.all_cons, h.1, Bool.not_false, Bool.true_and]
    exact all_of_any h.2
theorem meth_eval {s : Str} {q : Pos} {nm : Str} {ap cp : Pos} {ys : List Expr} {env : PySem.Env} (hl : (ap.endLine == cp.line) = true) (hp : (backTo cp (starEach ys env)).any (·.1) = false) (hn : ys.length < 30) :
    ∃ pl : Sem Bool, eval (.Call (.Attribute (.Name s q) nm ap) ys [] cp) env = (do
      let ov ← eval (.Name s q) env
      standAt ap.atName
      let (f, first) ← holding [ov] (getMethod ov nm pl)
      callWith cp f first (backTo cp (starEach ys env)) (backToKw cp (keywordEach [] env))) := by
  have hf : methodCallForm (ys.length + ([] : List Keyword).length) (backTo cp (starEach ys env)) (backToKw cp (keywordEach [] env)) = true := by
    unfold methodCallForm
    rw [all_of_any hp]
    have : decide (ys.length + 0 + 0 < 30) = true := decide_eq_true (by omega)
    simpa [backToKw, keywordEach] using hn
  refine ⟨do return (← importBound (.Name s q) env).getD true, ?_⟩
  show (do
    let ov ← attributeBase (.Name s q) nm env (eval (.Name s q) env)
    standAt ap.atName
    methodCall (.Name s q) nm ap cp env ov (ys.length + ([] : List Keyword).length) (backTo cp (starEach ys env)) (backToKw cp (keywordEach [] env))) = _
  have e : ∀ ov, methodCall (.Name s q) nm ap cp env ov (ys.length + ([] : List Keyword).length) (backTo cp (starEach ys env)) (backToKw cp (keywordEach [] env)) = (do
      let (f, first) ← holding [ov] (getMethod ov nm (do return (← importBound (.Name s q) env).getD true))
      callWith cp f first (backTo cp (starEach ys env)) (backToKw cp (keywordEach [] env))) := fun ov => by
    unfold methodCall calleeOf methodCallPos
    rw [hf, hl]
    simp
  simp only [e]
  rfl
/-- o.m(..), told alone -/
theorem gS_meth (C : CS S N sc X W lv) {v f : Nat} {es : Exs} {ys : List Expr} {ap cp : Pos} (hbd : S.M.hb = true) (hm : S.M.hm f = true) (h : chkV N sc v o = true) (hfr : S.G.fr f = false) (hl : (ap.endLine == cp.line) = true) (hn : (y :: ys).length < 30) (ha : PA X (y :: ys) (GEs X.K S en (fun _ _ _ _ => False) es))
    (hs : starEach (y :: ys) X.env = (false, eval y X.env) :: starEach ys X.env) (hp : (backTo cp (starEach (y :: ys) X.env)).any (·.1) = false) (hpl : (backTo cp (starEach ys X.env)).any (·.1) = false) : PS X (.Expr (.Call (.Attribute o (S.M.fn f) ap) (y :: ys) [] cp) pos) (GS X.K S en W ow (.meth v f es)) := by
  have F := C.fs.bd hbd
  obtain ⟨n1, fa, M, FF⟩ := C.fs.mt f hm
  obtain ⟨fd, ps, hb, ok⟩ := FF.ok
  obtain ⟨s, q, rfl⟩ := chkV_inv h
  obtain ⟨pl, ht⟩ := meth_eval (s := s) (q := q) (nm := S.M.fn f) (env := X.env) hl hp hn
  refine psImp (ps_expr (pe_meth (E := E0) (pl := pl) (pe_slot C.toCK h) F.c M ok (C.room.mono (Nat.le_succ _)) hb .nil passL ha hs hpl ht)) fun D σ H ⟨δ, b, R, k, I, w, ko⟩ => ?_
  have w' : (match gt δ v with
    | .vl (.brd p) => (∃ B, b = some (p, B)) ∧ wEs S.G es δ b (fun ds b1 => S.G.sp f (.brd p :: ds) b1 (fun _ b2 => k.nx δ b2) (fun _ => False)) (fun _ => False)
    | _ => False) := w
  cases hg : gt δ v with
  | no => rw [hg] at w'; exact w'.elim
  | ow _ => rw [hg] at w'; exact w'.elim
  | vl d =>
    rw [hg] at w'
    cases d <;> first | exact w'.elim | skip
    rename_i p
    obtain ⟨u, g1, g2⟩ := I.val hg
    cases g2
    obtain ⟨⟨B, rfl⟩, w2⟩ := w'
    obtain ⟨aa, r1, _⟩ := I.bd p B rfl
    refine ⟨_, g1, p, aa.dx, bdFs aa, rfl, r1.ins, n1 aa, δ, _, R, _, _, I, w2, fun ds b1 vs R1 H1 J st r _ q => ?_, fun _ _ _ _ _ z => z⟩
    refine ⟨.brd p :: ds, b1, R1, _, _, J.entry (.cons (.brd p) (by rw [List.append_nil]; exact r)), q, fun d b' u R' H' ou hq => ?_, fun _ _ _ _ _ z => z⟩
    unfold Out at ou
    rw [hfr] at ou
    have o' : ER X.K S.bc ⟨H1, R1, b1⟩ [.vl d] b' [some u] R' H' := by simpa using ou
    obtain ⟨J2, st2⟩ := J.back o'
    exact ko.nx _ _ σ R' H' J2 hq
/-- return Board(..) -/
theorem gS_retB (C : CS S N sc X W lv) {i j : Nat} {f u1 u2 y1 y2 : Expr} {p3 : Pos} (hbd : S.M.hb = true) (hij : i ≠ j) (hf : glName sc S.M.bd f = true) (h1 : chkV N sc i u1 = true) (h2 : chkV N sc j u2 = true) (o1 : ordX y1 = true) (o2 : ordX y2 = true) (g1 : PE X y1 (GE X.K S en W e)) (g2 : PE X y2 (GE X.K S en W c)) :
    PS X (.Return (some (.Call f [u1, u2, y1, y2] [] p3)) pos) (GS X.K S en W false (.retB i j e c)) := by
  obtain ⟨p0, rfl, n1, n2, n3⟩ := gln C.toCK hf
  obtain ⟨F0, F1, F2, fi, fdi, M, hb, ok⟩ := C.fs.bd hbd
  obtain ⟨s1, q1, rfl⟩ := chkV_inv h1
  obtain ⟨s2, q2, rfl⟩ := chkV_inv h2
  have st4 : starEach [y2] X.env = (false, eval y2 X.env) :: starEach [] X.env := star_of o2 [] _
  have st3 : starEach [y1, y2] X.env = (false, eval y1 X.env) :: starEach [y2] X.env := star_of o1 [y2] _
  have hpl : (backTo p3 (starEach [.Name s2 q2, y1, y2] X.env)).any (·.1) = false := by
    have e : starEach [.Name s2 q2, y1, y2] X.env = (false, eval (.Name s2 q2) X.env) :: starEach [y1, y2] X.env := rfl
    rw [e, st3, st4]
    rfl
  refine psImp (ps_ret (pe_make (E := E0) (dvs := []) M ok (C.room.mono (Nat.le_refl _)) n1 F0 hb .nil passL (pa_cons (pe_slot C.toCK h1) (pa_cons (pe_slot C.toCK h2) (pa_cons g1 (pa_cons g2 pa_nil st4) st3))) n2 rfl hpl)) fun D σ H ⟨δ, b, R, k, I, w, ko⟩ => ?_
  have w' : (match gt δ i, gt δ j with
    | .ow hs, .ow ts => wE S.G e δ b (fun d1 b1 => wE S.G c δ b1 (fun d2 b2 => match d1, d2 with
      | .lst rs, .lst g => b2 = none ∧ ∀ p, k.rt (.brd p) (some (p, ⟨hs, ts, rs, false, g⟩))
      | _, _ => False) (fun c => k.ex c δ)) (fun c => k.ex c δ)
    | _, _ => False) := w
  cases hgi : gt δ i with
  | no => rw [hgi] at w'; exact w'.elim
  | vl _ => rw [hgi] at w'; exact w'.elim
  | ow hs =>
    rw [hgi] at w'
    cases hgj : gt δ j with
    | no => rw [hgj] at w'; exact w'.elim
    | vl _ => rw [hgj] at w'; exact w'.elim
    | ow ts =>
      rw [hgj] at w'
      obtain ⟨ph, xh, e1, oh, _⟩ := I.owl hgi
      obtain ⟨pt, xt, e2, ot, _⟩ := I.owl hgj
      refine ⟨_, e1, _, e2, δ, b, R, _, _, I, w', fun d1 b1 v1 R1 H1 J st r1 q => ⟨δ, b1, R1, _, _, J, q, fun d2 b2 v2 R2 H2 J2 st2 r2 q => ?_, ko.eok⟩, ko.eok⟩
      intro x dx hx hdx hne
      have q' : ∃ rs g, d1 = .lst rs ∧ d2 = .lst g ∧ b2 = none ∧ ∀ p, k.rt (.brd p) (some (p, ⟨hs, ts, rs, false, g⟩)) := by
        cases d1 <;> cases d2 <;> first | exact q.elim | exact ⟨_, _, rfl, rfl, q.1, q.2⟩
      obtain ⟨rs, g, rfl, rfl, rfl, kk⟩ := q'
      cases r1 with
      | @lst pr xr _ p1 p2 =>
        cases r2 with
        | @lst pg xg _ p3 p4 =>
          obtain ⟨ph', xh2, e1', oh2, h3, h4, h5⟩ := J2.owl hgi
          obtain ⟨pt', xt2, e2', ot2, t3, t4, t5⟩ := J2.owl hgj
          rw [e1] at e1'
          cases e1'
          rw [e2] at e2'
          cases e2'
          have hpt : ph ≠ pt := fun e => hij (J2.dis i j ph oh2 (by rw [e]; exact ot2))
          have nx : ∀ {c : Addr} {o : HO}, H2 c = some o → c ≠ x ∧ c ≠ dx := fun {c o} h => ⟨fun e => (by rw [e, hx] at h; cases h), fun e => (by rw [e, hdx] at h; cases h)⟩
          refine ⟨x, dx, .ref ph, .ref pt, .ref pr, .ref pg, rfl, upd_same, rfl, ?_⟩
          have keep : ∀ {c : Addr} {o : HO}, H2 c = some o → upd (upd (upd H2 dx (.own x)) x (.ins S.bc dx [])) x (.ins S.bc dx (bdFs ⟨dx, ph, pt, pr, pg⟩)) c = some o := fun {c o} h => by
            rw [upd_ne (nx h).1, upd_ne (nx h).1, upd_ne (nx h).2]
            exact h
          have fre0 : en.H0 x = none := by
            cases e : en.H0 x with
            | none => rfl
            | some o =>
              obtain ⟨u, hu⟩ := J2.stp.dom x o e
              rw [hx] at hu; cases hu
          have nRx : R2 x = none := J2.sub.fre hx
          have pr2 : R2 pr = some (.lst xr) := st2.st.rr _ _ p1
          have rB : BdR X.K S.bc R2 (upd (upd (upd H2 dx (.own x)) x (.ins S.bc dx [])) x (.ins S.bc dx (bdFs ⟨dx, ph, pt, pr, pg⟩))) x ⟨hs, ts, rs, false, g⟩ ⟨dx, ph, pt, pr, pg⟩ := by
            refine ⟨upd_same, ⟨xh2, keep h3, h4⟩, ⟨xt2, keep t3, t4⟩, ⟨xr, keep (J2.sub _ _ pr2), p2.mono st2.st.rr⟩, ⟨xg, p3, p4⟩, fun _ => ⟨_, pr2⟩, fun c hc => ?_, ?_⟩
            · have hc' : c ∈ [x, ph, pt] := hc
              simp only [List.mem_cons, List.not_mem_nil, or_false] at hc'
              rcases hc' with h | h | h <;> rw [h]
              · exact nRx
              · exact h5
              · exact t5
            · show ([x, ph, pt] : List Addr).Nodup
              simp only [List.nodup_cons, List.mem_cons, List.not_mem_nil, or_false, not_or]
              exact ⟨⟨(nx h3).1.symm, (nx t3).1.symm⟩, hpt, by simp⟩
          refine ko.rt (.brd x) _ (.ref x) R2 _ ?_ (kk x)
          unfold RetR
          rw [if_neg Bool.false_ne_true]
          refine ⟨rfl, fun c u e => keep (J2.sub c u e), ⟨J2.stp.rr, J2.stp.old, fun c o e => ?_, fun c o e n => keep (J2.stp.out c o e n), fun c z => ?_⟩, fun m v e => ?_, fun m q ⟨ds, h, _⟩ => ?_, fun m n q ⟨ds, h, _⟩ => ?_, fun p B e => ?_⟩
          · obtain ⟨u, hu⟩ := J2.stp.dom c o e
            exact ⟨u, keep hu⟩
          · have z := (Bo.iff rB).mp z
            have hc' : c ∈ [x, ph, pt] := z
            simp only [List.mem_cons, List.not_mem_nil, or_false] at hc'
            rcases hc' with h | h | h <;> rw [h]
            · exact .inr fre0
            · exact .inr (J2.own i ph oh2)
            · exact .inr (J2.own j pt ot2)
          · cases m with
            | zero =>
              cases e
              exact .vl (.brd x)
            | succ m => simp at e
          · cases m with
            | zero => cases h
            | succ m => cases h
          · cases m with
            | zero => cases h
            | succ m => cases h
          · cases e
            refine ⟨_, rB, fun m q ⟨ds, h, _⟩ => ?_⟩
            cases m with
            | zero => cases h
            | succ m => cases h
end
end LK

/-! Statements: all. -/
namespace LK
open PySem PySem.Spec PyProof.Rows L2
section
variable {S : Sy} {en : En} {N : List Str} {sc : Scope} {X : Cx} {W : WX} {lv : Nat} {ow : Bool} {y z o : Expr} {e a c : Ex} {pos p2 : Pos}
theorem gB_nil : PSs X [] (GB X.K S en W ow .nil) := pssImp pss_nil fun D σ H ⟨δ, b, R, k, I, w, o⟩ => o.nx δ b σ R H I w
theorem gB_cons {s : Sm} {r : Sms} {x : Stmt} {xs : List Stmt} (h1 : PS X x (GS X.K S en W ow s)) (h2 : PSs X xs (GB X.K S en W ow r)) : PSs X (x :: xs) (GB X.K S en W ow (.cons s r)) :=
  pssImp (pss_cons h1 h2) fun D σ H ⟨δ, b, R, k, I, w, o⟩ => ⟨δ, b, R, { k with nx := fun δ' b' => wB S.G r k δ' b' }, I, w, ⟨fun δ' b' σ' R' H' J q => ⟨δ', b', R', k, J, q, o⟩, o.rt, o.ex⟩⟩
theorem gB_frz {i : Nat} {r : Sms} {xs : List Stmt} (h2 : PSs X xs (GB X.K S en W ow r)) : PSs X xs (GB X.K S en W ow (.cons (.frz i) r)) :=
  pssImp h2 fun D σ H ⟨δ, b, R, k, I, w, o⟩ => by
    have w' : (match gt δ i with
      | .ow ds => wB S.G r k (st δ i (.vl (.lst ds))) b
      | _ => wB S.G r k δ b) := w
    cases hg : gt δ i with
    | no => rw [hg] at w'; exact ⟨δ, b, R, k, I, w', o⟩
    | vl _ => rw [hg] at w'; exact ⟨δ, b, R, k, I, w', o⟩
    | ow ds =>
      rw [hg] at w'
      obtain ⟨p, xs', _, _, _, _, J⟩ := I.freeze hg
      exact ⟨_, b, _, k, J, w', o⟩
mutual
theorem sok : ∀ (s : Sm) {X : Cx} {W : WX} {en : En} {ow : Bool} {x : Stmt}, CS S N sc X W lv → chkS S.M N S.G.fr ow sc s x = true → PS X x (GS X.K S en W ow s)
  | .asg i e, X, W, en, ow, x, C, h => by
    unfold chkS at h
    split at h
    · simp only [Bool.and_eq_true] at h
      obtain ⟨te, h1, h2⟩ := (asg_any (en := en) C h.1.1 h.1.2 h.2).1
      exact gS_asgT C h1 h2
    · cases h
  | .asgO i e, X, W, en, ow, x, C, h => by
    unfold chkS at h
    rw [Bool.and_eq_true] at h
    obtain ⟨hf, h⟩ := h
    split at h
    · simp only [Bool.and_eq_true] at h
      obtain ⟨te, h1, h2⟩ := (asg_any (en := en) C h.1.1 h.1.2 h.2).2 hf
      exact gS_asgOT C h1 h2
    · cases h
  | .frz i, X, W, en, ow, x, C, h => by simp [chkS] at h
  | .dead, X, W, en, ow, x, C, h => by simp [chkS] at h
  | .app i e, X, W, en, ow, x, C, h => by
    unfold chkS at h
    split at h
    · simp only [Bool.and_eq_true] at h
      obtain ⟨⟨⟨h1, h2⟩, h3⟩, h4⟩ := h
      have h2 := beq_iff_eq.mp h2
      subst h2
      exact gS_app C h1 h3 (chkE_ord h4) ((eok e).ge C.toCK h4)
    · cases h
  | .ext i e, X, W, en, ow, x, C, h => by
    unfold chkS at h
    split at h
    · simp only [Bool.and_eq_true] at h
      obtain ⟨⟨⟨h1, h2⟩, h3⟩, h4⟩ := h
      have h2 := beq_iff_eq.mp h2
      subst h2
      exact gS_ext C h1 h3 (chkE_ord h4) ((eok e).ge C.toCK h4)
    · cases h
  | .seti i k e, X, W, en, ow, x, C, h => by
    unfold chkS at h
    split at h
    · simp only [Bool.and_eq_true] at h
      exact gS_seti C h.1.1 (chkE_ord h.1.2) ((eok k).ge C.toCK h.1.2) ((eok e).ge C.toCK h.2)
    · cases h
  | .ite c a b, X, W, en, ow, x, C, h => by
    unfold chkS at h
    split at h
    · simp only [Bool.and_eq_true] at h
      exact gS_ite C ((eok c).gt C.toCK h.1.1).1 (bok a C h.1.2) (bok b C h.2)
    · cases h
  | .whil c b, X, W, en, ow, x, C, h => by
    unfold chkS at h
    split at h
    · simp only [Bool.and_eq_true] at h
      exact gS_whil C ((eok c).gt C.toCK h.1).1 (bok b C h.2)
    · cases h
  | .forr tg src b, X, W, en, ow, x, C, h => by
    unfold chkS at h
    split at h
    · simp only [Bool.and_eq_true] at h
      obtain ⟨⟨⟨h1, h2⟩, h3⟩, h4⟩ := h
      obtain ⟨q1, q2⟩ := (srcok src).ge (en := en) (W := W) C.toCK h3 h1 (tg_tuple h2)
      exact gS_forr C q1 (pg_T C.toCK C.hfn h2) (fun x => noSet_of q2 x) fun en => bok b C h4
    · cases h
  | .ret e, X, W, en, ow, x, C, h => by
    unfold chkS at h
    rw [Bool.and_eq_true] at h
    obtain ⟨hf, h⟩ := h
    split at h
    · cases ow with
      | false => exact gS_ret C ((eok e).ge C.toCK h)
      | true => exact gS_retF C ((eok e).gf C.toCK h (by simpa using hf))
    · cases h
  | .retO i, X, W, en, ow, x, C, h => by
    unfold chkS at h
    rw [Bool.and_eq_true] at h
    obtain ⟨hf, h⟩ := h
    subst hf
    split at h
    · exact gS_retO C h
    · cases h
  | .expr e, X, W, en, ow, x, C, h => by
    unfold chkS at h
    split at h
    · rename_i y p
      split at h
      · cases h
      · cases h
      · cases h
      · rename_i n1 n2 n3
        exact gS_expr C ((eok e).ge C.toCK h) (by
          cases y <;> first | rfl | exact absurd rfl (n1 _ _ _ _) | exact absurd rfl (n2 _ _ _ _) | exact absurd rfl (n3 _ _ _ _ _))
    · cases h
  | .rais c, X, W, en, ow, x, C, h => by
    unfold chkS at h
    split at h
    · simp only [Bool.and_eq_true] at h
      exact gS_rais C h.1 h.2
    · cases h
  | .tri b hs, X, W, en, ow, x, C, h => by
    unfold chkS at h
    split at h
    · rename_i ys xs pos
      simp only [Bool.and_eq_true] at h
      obtain ⟨⟨⟨h1, h2⟩, h3⟩, h4⟩ := h
      have h0 : ∀ p ∈ hs, ow = true → ∀ e, p.2 ≠ .retIs e := fun p hp e1 e e2 => by
        rw [e1] at h4
        simp only [Bool.not_true, Bool.false_or, List.all_eq_true] at h4
        have := h4 p hp
        rw [e2] at this
        cases this
      cases xs with
      | nil =>
        cases hs with
        | nil => simp [triOk] at h1
        | cons p r => simp [chkHds] at h3
      | cons x xs =>
        simp only [triOk, Bool.and_eq_true, Bool.or_eq_true] at h1
        obtain ⟨h1, h5 | ⟨h5, h6⟩⟩ := h1
        · refine gS_tri C h3 (fun p hp => ?_) fun {X W} C => bok b C h2
          have := List.all_eq_true.mp h5 p hp
          generalize p.2 = q at this ⊢
          cases q <;> first | trivial | cases this
        · match hs, h3, h5, h6, h0 with
          | [(d, q)], h3, h5, h6, h0 =>
            cases xs with
            | cons y ys =>
              obtain ⟨ty, nm, ss, p⟩ := x
              cases ty <;> simp [chkHds] at h3
            | nil =>
              refine gS_triAs C h3 ?_ (fun e e1 => ?_) fun {X W} C => bok b C h2
              · have := List.all_eq_true.mp h6 _ List.mem_cons_self
                cases q <;> first | trivial | cases this
              · cases ow with
                | false => rfl
                | true => exact absurd e1 (h0 _ List.mem_cons_self rfl e)
    · cases h
  | .retB i j e1 e2, X, W, en, ow, x, C, h => by
    unfold chkS at h
    simp only [Bool.and_eq_true, Bool.not_eq_true', decide_eq_true_eq] at h
    obtain ⟨⟨h0, h1⟩, h⟩ := h
    subst h0
    split at h
    · simp only [Bool.and_eq_true] at h
      obtain ⟨⟨⟨⟨⟨q0, q1⟩, q2⟩, q3⟩, q4⟩, q5⟩ := h
      exact gS_retB C q0 h1 q1 q2 q3 (chkE_ord q4) (chkE_ord q5) ((eok e1).ge C.toCK q4) ((eok e2).ge C.toCK q5)
    · cases h
  | .meth v f es, X, W, en, ow, x, C, h => by
    unfold chkS at h
    split at h
    · simp only [Bool.and_eq_true, Bool.not_eq_true', decide_eq_true_eq] at h
      obtain ⟨⟨⟨⟨⟨⟨⟨q0, q1⟩, q2⟩, q3⟩, q4⟩, q5⟩, q6⟩, q7⟩ := h
      have e := beq_iff_eq.mp q4
      subst e
      have hall := (chkEs_ord q7).1
      have C0 : CK S N sc X (fun _ _ _ _ => False) lv := { C.toCK with tk := takes0 }
      exact gS_meth C q0 q1 q3 q2 q5 q6 ((esok es).ge C0 q7) (star_of (hall _ List.mem_cons_self) _ _) (stars_of hall _ _) (stars_of (fun z hz => hall z (List.mem_cons_of_mem _ hz)) _ _)
    · cases h
  | .fset f v e, X, W, en, ow, x, C, h => by
    unfold chkS at h
    rw [Bool.and_eq_true] at h
    obtain ⟨h0, h⟩ := h
    split at h
    · simp only [Bool.and_eq_true] at h
      obtain ⟨⟨⟨q0, q1⟩, q2⟩, q3⟩ := h
      have e2 := beq_iff_eq.mp q2
      subst e2
      by_cases hf : f = .goal
      · subst hf
        exact gS_fsetG C q0 q1 ((eok e).ge C.toCK q3)
      · have hfr : fresh S.G.fr e = true := by
          rw [Bool.or_eq_true] at h0
          rcases h0 with h0 | h0
          · exact absurd (by simpa using h0) hf
          · exact h0
        exact gS_fsetF C q0 hf q1 ((eok e).gf C.toCK q3 hfr)
    · cases h
  | .fsetix f v k e, X, W, en, ow, x, C, h => by
    unfold chkS at h
    split at h
    · simp only [Bool.and_eq_true] at h
      obtain ⟨⟨⟨q0, q1⟩, q2⟩, q3⟩ := h
      exact gS_fsetix C q1 q0 (chkE_ord q2) ((eok k).ge C.toCK q2) ((eok e).ge C.toCK q3)
    · cases h
  | .fapp f v e, X, W, en, ow, x, C, h => by
    unfold chkS at h
    split at h
    · simp only [Bool.and_eq_true] at h
      obtain ⟨⟨⟨⟨q0, q1⟩, q2⟩, q3⟩, q4⟩ := h
      have e2 := beq_iff_eq.mp q2
      subst e2
      exact gS_fapp C q1 q0 q3 (chkE_ord q4) ((eok e).ge C.toCK q4)
    · cases h
theorem bok : ∀ (b : Sms) {X : Cx} {W : WX} {en : En} {ow : Bool} {xs : List Stmt}, CS S N sc X W lv → chkB S.M N S.G.fr ow sc b xs = true → PSs X xs (GB X.K S en W ow b)
  | .nil, X, W, en, ow, xs, C, h => by
    unfold chkB at h
    cases xs with
    | nil => exact gB_nil
    | cons _ _ => cases h
  | .cons s r, X, W, en, ow, xs, C, h => by
    unfold chkB at h
    cases s with
    | frz i => exact gB_frz (bok r C h)
    | dead => exact ⟨fun pins s σ H D I ⟨δ, b, R, k, I2, w, o⟩ => False.elim w⟩
    | _ =>
      cases xs with
      | nil => cases h
      | cons x xs =>
        simp only [Bool.and_eq_true] at h
        exact gB_cons (sok _ C h.1) (bok r C h.2)
end
end
end LK

/-! A def of the text and its body in the language. -/
namespace LK
open PySem PySem.Spec PyProof.Rows L2
/-- the slots at entry -/
def ent (n : Nat) (ds : List D) : Env := ds.map .vl ++ List.replicate (n - ds.length) .no
/-- what the body must answer -/
def kOf (fr : Bool) (Q : D → Ob → Prop) (E : Nat → Prop) : Kt := { nx := fun _ b => fr = false ∧ (Q .non b ∨ Q .non none), rt := fun d b => Q d b ∨ Q d none, ex := fun c _ => E c }
theorem gt_app_l : ∀ {xs ys : Env} {i : Nat}, i < xs.length → gt (xs ++ ys) i = gt xs i
  | [], _, _, h => absurd h (Nat.not_lt_zero _)
  | _ :: _, _, 0, _ => rfl
  | _ :: r, ys, i + 1, h => gt_app_l (xs := r) (Nat.lt_of_succ_lt_succ h)
theorem gt_app_r : ∀ {xs ys : Env} {i : Nat}, xs.length ≤ i → gt (xs ++ ys) i = gt ys (i - xs.length)
  | [], _, _, _ => rfl
  | _ :: r, ys, 0, h => absurd h (by simp)
  | _ :: r, ys, i + 1, h => by
    have e : (i + 1) - (r.length + 1) = i - r.length := by omega
    show gt (r ++ ys) i = gt ys ((i + 1) - (r.length + 1))
    rw [e]
    exact gt_app_r (xs := r) (Nat.le_of_succ_le_succ h)
theorem gt_rep : ∀ {n i : Nat}, gt (List.replicate n .no) i = .no
  | 0, _ => rfl
  | n + 1, 0 => rfl
  | n + 1, i + 1 => gt_rep (n := n) (i := i)
theorem ER.start {K : PySem.W.Frag} {bc : Addr} {en : En} {b : Ob} {R H : Hp} {ds : List D} {vs : List V} {N : List Str} (I : ER K bc en (ds.map .vl) b (vs.map some) R H) : ER K bc en (ent N.length ds) b (L2.start N vs) R H := by
  have hl : ds.length = vs.length := by simpa using I.len
  have no : ∀ i p, ¬ OwnAt (ent N.length ds) (L2.start N vs) i p := fun i p ⟨es, h, _⟩ => by
    unfold ent at h
    by_cases hi : i < (ds.map Sl.vl).length
    · rw [gt_app_l hi] at h
      exact absurd h gt_vls
    · rw [gt_app_r (Nat.le_of_not_lt hi), gt_rep] at h
      cases h
  refine ⟨by unfold ent L2.start; simp [hl], I.sub, I.stp, fun i v e => ?_, fun i p o => absurd o (no i p), fun i j p o => absurd o (no i p), fun p B e => ?_⟩
  · unfold ent L2.start at *
    by_cases hi : i < (vs.map some).length
    · rw [List.getElem?_append_left hi] at e
      rw [gt_app_l (by simpa [hl] using hi)]
      exact I.sl i v e
    · have hi' : (ds.map Sl.vl).length ≤ i := by simp at hi ⊢; omega
      rw [gt_app_r hi', gt_rep]
      exact .no
  · obtain ⟨a, r, _⟩ := I.bd p B e
    exact ⟨a, r, fun i q o => absurd o (no i q)⟩
theorem RetR.forget {K : PySem.W.Frag} {S : Sy} {en : En} {ow : Bool} {d : D} {b : Ob} {v : V} {R H : Hp} (r : RetR K S en ow d b v R H) : RetR K S en ow d none v R H := by
  unfold RetR at r ⊢
  split
  · rename_i h
    rw [if_pos h] at r
    obtain ⟨ds, e, J⟩ := r
    exact ⟨ds, e, J.forget⟩
  · rename_i h
    rw [if_neg h] at r
    exact r.forget
section
variable {P : Program} {w : World} {K : PySem.W.Frag} {mg : Str → Option Value} {base : Heap}
theorem fn_lk {S : Sy} {f lv : Nat} {x qual : Str} {params : Arguments} {bd : List Stmt} {sc : Scope} {a : Addr} {fd : FuncData} {N ps : List Str} (F : FunD K x qual params bd sc [] [] a fd) (Sc : FnScope N ps sc) (fs : Facts P w K mg base S lv) (body : Sms)
    (chk : chkB S.M N S.G.fr (S.G.fr f) sc body bd = true)
    (len : ∀ ds b Q E, S.G.sp f ds b Q E → ds.length = ps.length)
    (meets : ∀ ds b Q E, S.G.sp f ds b Q E → wB S.G body (kOf (S.G.fr f) Q E) (ent N.length ds) b) : FnOk P w K mg base (L2.CX P w) (lv + 2) a fd ps (spOf K S f) := by
  refine F.ok Sc (fun vs H Q E h => ?_) (fun cdv A outer s H vs Q E hr h => ?_)
  · obtain ⟨ds, b, R, Q', E', I, hs, _⟩ := h
    have := I.len
    rw [← len ds b Q' E' hs]
    simpa using this.symm
  · obtain ⟨ds, b, R, Q', E', I, hs, k, ke⟩ := h
    have hl : vs.length = ds.length := by simpa using I.len.symm
    have C : CS S N sc (cxOf (L2.CX P w) P w K mg base N qual sc a cdv A outer s H E) (fun cls d _ H' => E cls d H') lv :=
      { fs := fs, calm := rfl, n := rfl, nd := Sc.nd, sc := rfl, tk := takes_of rfl rfl rfl rfl, room := hr, fn := fun _ => rfl, stk := rfl, fr := rfl, pa := passes_of rfl, kind := Sc.kind }
    refine ⟨_, bok body (en := ⟨H, R, b⟩) (ow := S.G.fr f) C chk, ?_⟩
    refine ⟨ent N.length ds, b, R, kOf (S.G.fr f) Q' E', I.start, meets ds b Q' E' hs, ⟨fun δ b' σ R' H' J q => ?_, fun d b' v R' H' r q => ?_, fun c δ σ R' H' hh J q => ?_⟩⟩
    · obtain ⟨q0, q⟩ := q
      rcases q with q | q
      · refine k .non b' .non R' H' ?_ q
        unfold Out
        rw [if_neg (by rw [q0]; exact Bool.false_ne_true)]
        exact J.ret .non
      · refine k .non none .non R' H' ?_ q
        unfold Out
        rw [if_neg (by rw [q0]; exact Bool.false_ne_true)]
        exact J.forget.ret .non
    · rcases q with q | q
      · exact k d b' v R' H' r q
      · exact k d none v R' H' r.forget q
    · refine ke c R' H' hh ?_ q
      exact ⟨rfl, J.sub, J.stp, fun i v e => by simp at e, fun i p ⟨_, z, _⟩ => (by cases z), fun i j p ⟨_, z, _⟩ => (by cases z), fun _ _ e => nomatch e⟩
/-- the defs before the n-th -/
def _root_.LK.Sy.upto (S : Sy) (n : Nat) : Sy := { S with M := { S.M with hf := fun g => S.M.hf g && decide (g < n), hm := fun g => S.M.hm g && decide (g < n) } }
theorem upto_sp {S : Sy} {n f : Nat} : spOf K (S.upto n) f = spOf K S f := rfl
theorem FnF.mono {S : Sy} {lv lv' f : Nat} {a : Addr} (h : FnF P w K mg base S lv f a) (hl : lv ≤ lv') : FnF P w K mg base S lv' f a := by
  obtain ⟨k, fd, ps, hb, ok⟩ := h
  exact ⟨k, fd, ps, hb, ok.mono hl⟩
theorem BdF.mono {S : Sy} {lv lv' : Nat} (h : BdF P w K mg base S lv) (hl : lv ≤ lv') : BdF P w K mg base S lv' := by
  obtain ⟨g, c, n, fi, fdi, h1, h2, h3⟩ := h
  exact ⟨g, c, n, fi, fdi, h1, h2, h3.mono hl⟩
theorem FnF.up {S : Sy} {lv lv' f n m : Nat} {a : Addr} (h : FnF P w K mg base (S.upto n) lv f a) (hl : lv ≤ lv') : FnF P w K mg base (S.upto m) lv' f a := by
  obtain ⟨k, fd, ps, hb, ok⟩ := h
  exact ⟨k, fd, ps, hb, ok.mono hl⟩
theorem ExcF.up {S : Sy} {n m c : Nat} (h : ExcF K mg (S.upto n) c) : ExcF K mg (S.upto m) c := ⟨h.g, h.x, h.k, h.b, h.t, h.i, h.v⟩
theorem BdF.up {S : Sy} {lv lv' n m : Nat} (h : BdF P w K mg base (S.upto n) lv) (hl : lv ≤ lv') : BdF P w K mg base (S.upto m) lv' := by
  obtain ⟨g, c, n, fi, fdi, h1, h2, h3⟩ := h
  exact ⟨g, c, n, fi, fdi, h1, h2, h3.mono hl⟩
theorem Facts.step {S : Sy} {f lv : Nat} {x y qual : Str} {params : Arguments} {bd : List Stmt} {sc : Scope} {a : Addr} {fd : FuncData} {N ps : List Str} (fs : Facts P w K mg base (S.upto f) lv) (F : FunD K x qual params bd sc [] [] a fd) (Sc : FnScope N ps sc) (body : Sms)
    (hx : S.M.fn f = y) (g : mg y = some (.ref a)) (hm : S.M.hm f = false)
    (hb : ∀ (kV doc pm : Value) (an : Option Addr) (cdv ct : Value) (us : List Value), us.length = ps.length → bindArgs (PySem.W.fnOf x qual params bd sc .none kV doc pm an cdv ct) ⟨us, []⟩ = pure (ps.zip us))
    (chk : chkB (S.upto f).M N S.G.fr (S.G.fr f) sc body bd = true)
    (len : ∀ ds b Q E, S.G.sp f ds b Q E → ds.length = ps.length)
    (meets : ∀ ds b Q E, S.G.sp f ds b Q E → wB S.G body (kOf (S.G.fr f) Q E) (ent N.length ds) b) : Facts P w K mg base (S.upto (f + 1)) (lv + 2) := by
  have ok := fn_lk (S := S.upto f) (f := f) F Sc fs body chk len meets
  refine ⟨fun f' h => ?_, fun f' h => ?_, fs.bl, fs.gl, fun c h => (fs.ex c h).up, fs.em, fun h => (fs.bd h).up (Nat.le_add_right lv 2)⟩
  · have h' : (S.M.hf f' && decide (f' < f + 1)) = true := h
    simp only [Bool.and_eq_true, decide_eq_true_eq] at h'
    by_cases e : f' = f
    · subst e
      exact ⟨a, by show mg (S.M.fn f') = _; rw [hx]; exact g, F.kp, fd, ps, F.bindsN hb, ok⟩
    · obtain ⟨a', g', h2⟩ := fs.fn f' (by show (S.M.hf f' && decide (f' < f)) = true; rw [h'.1]; simpa using (by omega : f' < f))
      exact ⟨a', g', h2.up (Nat.le_add_right lv 2)⟩
  · have h' : (S.M.hm f' && decide (f' < f + 1)) = true := h
    simp only [Bool.and_eq_true, decide_eq_true_eq] at h'
    by_cases e : f' = f
    · subst e
      rw [hm] at h'
      cases h'.1
    · obtain ⟨q1, a', g', h2⟩ := fs.mt f' (by show (S.M.hm f' && decide (f' < f)) = true; rw [h'.1]; simpa using (by omega : f' < f))
      exact ⟨q1, a', g', h2.up (Nat.le_add_right lv 2)⟩
theorem Facts.stepM {S : Sy} {f lv : Nat} {x qual : Str} {params : Arguments} {bd : List Stmt} {sc : Scope} {a : Addr} {fd : FuncData} {N ps : List Str} (fs : Facts P w K mg base (S.upto f) lv) (F : FunD K x qual params bd sc [] [] a fd) (Sc : FnScope N ps sc) (body : Sms)
    (hx : S.M.fn f = x) (g : Meth K S.bc x a) (hm : S.M.hf f = false) (hn : ∀ a : BdA, (bdFs a).lookup x = none)
    (hb : ∀ (kV doc pm : Value) (an : Option Addr) (cdv ct : Value) (us : List Value), us.length = ps.length → bindArgs (PySem.W.fnOf x qual params bd sc .none kV doc pm an cdv ct) ⟨us, []⟩ = pure (ps.zip us))
    (chk : chkB (S.upto f).M N S.G.fr (S.G.fr f) sc body bd = true)
    (len : ∀ ds b Q E, S.G.sp f ds b Q E → ds.length = ps.length)
    (meets : ∀ ds b Q E, S.G.sp f ds b Q E → wB S.G body (kOf (S.G.fr f) Q E) (ent N.length ds) b) : Facts P w K mg base (S.upto (f + 1)) (lv + 2) := by
  have ok := fn_lk (S := S.upto f) (f := f) F Sc fs body chk len meets
  refine ⟨fun f' h => ?_, fun f' h => ?_, fs.bl, fs.gl, fun c h => (fs.ex c h).up, fs.em, fun h => (fs.bd h).up (Nat.le_add_right lv 2)⟩
  · have h' : (S.M.hf f' && decide (f' < f + 1)) = true := h
    simp only [Bool.and_eq_true, decide_eq_true_eq] at h'
    by_cases e : f' = f
    · subst e
      rw [hm] at h'
      cases h'.1
    · obtain ⟨a', g', h2⟩ := fs.fn f' (by show (S.M.hf f' && decide (f' < f)) = true; rw [h'.1]; simpa using (by omega : f' < f))
      exact ⟨a', g', h2.up (Nat.le_add_right lv 2)⟩
  · have h' : (S.M.hm f' && decide (f' < f + 1)) = true := h
    simp only [Bool.and_eq_true, decide_eq_true_eq] at h'
    by_cases e : f' = f
    · subst e
      exact ⟨fun a => by show (bdFs a).lookup (S.M.fn f') = none; rw [hx]; exact hn a, a, by show Meth K S.bc (S.M.fn f') a; rw [hx]; exact g, F.kp, fd, ps, F.bindsN hb, ok⟩
    · obtain ⟨q1, a', g', h2⟩ := fs.mt f' (by show (S.M.hm f' && decide (f' < f)) = true; rw [h'.1]; simpa using (by omega : f' < f))
      exact ⟨q1, a', g', h2.up (Nat.le_add_right lv 2)⟩
/-- a def that is never called: nothing is asked of its body -/
theorem fn_never {S : Sy} {f lv : Nat} {a : Addr} {fd : FuncData} {ps : List Str} (h : ∀ ds b Q E, ¬ S.G.sp f ds b Q E) : FnOk P w K mg base (L2.CX P w) lv a fd ps (spOf K S f) :=
  ⟨fun vs H Q E ⟨ds, b, R, Q', E', _, hs, _⟩ => absurd hs (h ds b Q' E'), fun A outer s H args us vs Q E _ _ _ _ ⟨ds, b, R, Q', E', _, hs, _⟩ => absurd hs (h ds b Q' E')⟩
theorem Facts.stepF {S : Sy} {f lv : Nat} {x y qual : Str} {params : Arguments} {bd : List Stmt} {sc : Scope} {a : Addr} {fd : FuncData} {ps : List Str} (fs : Facts P w K mg base (S.upto f) lv) (F : FunD K x qual params bd sc [] [] a fd)
    (hx : S.M.fn f = y) (g : mg y = some (.ref a)) (hm : S.M.hm f = false)
    (hb : ∀ (kV doc pm : Value) (an : Option Addr) (cdv ct : Value) (us : List Value), us.length = ps.length → bindArgs (PySem.W.fnOf x qual params bd sc .none kV doc pm an cdv ct) ⟨us, []⟩ = pure (ps.zip us))
    (never : ∀ ds b Q E, ¬ S.G.sp f ds b Q E) : Facts P w K mg base (S.upto (f + 1)) lv := by
  have ok : FnOk P w K mg base (L2.CX P w) lv a fd ps (spOf K (S.upto f) f) := fn_never never
  refine ⟨fun f' h => ?_, fun f' h => ?_, fs.bl, fs.gl, fun c h => (fs.ex c h).up, fs.em, fun h => (fs.bd h).up (Nat.le_refl lv)⟩
  · have h' : (S.M.hf f' && decide (f' < f + 1)) = true := h
    simp only [Bool.and_eq_true, decide_eq_true_eq] at h'
    by_cases e : f' = f
    · subst e
      exact ⟨a, by show mg (S.M.fn f') = _; rw [hx]; exact g, F.kp, fd, ps, F.bindsN hb, ok⟩
    · obtain ⟨a', g', h2⟩ := fs.fn f' (by show (S.M.hf f' && decide (f' < f)) = true; rw [h'.1]; simpa using (by omega : f' < f))
      exact ⟨a', g', h2.up (Nat.le_refl lv)⟩
  · have h' : (S.M.hm f' && decide (f' < f + 1)) = true := h
    simp only [Bool.and_eq_true, decide_eq_true_eq] at h'
    by_cases e : f' = f
    · subst e
      rw [hm] at h'
      cases h'.1
    · obtain ⟨q1, a', g', h2⟩ := fs.mt f' (by show (S.M.hm f' && decide (f' < f)) = true; rw [h'.1]; simpa using (by omega : f' < f))
      exact ⟨q1, a', g', h2.up (Nat.le_refl lv)⟩
/-- the law's own def -/
theorem law_sp {S : Sy} {f : Nat} {H : Hp} {a : Addr} {ns : List Int} (h : SqL K H a (ns.map V.int)) (hf : S.G.fr f = false) (hs : S.G.sp f [.scr ns] none (fun d _ => d = .bl true) fun _ => False) : spOf K S f [.ref a] H (fun v _ => v = .bl true) fun _ _ _ => False := by
  refine ⟨[.scr ns], none, H, _, _, ⟨rfl, Sub.refl _, Stp.refl (Sub.refl _), fun i v e => ?_, fun i p ⟨es, h, _⟩ => absurd h gt_vls, fun i j p ⟨es, h, _⟩ => absurd h gt_vls, fun _ _ e => nomatch e⟩, hs, fun d b' v R' H' o e => ?_, fun _ _ _ _ _ z => z⟩
  · cases i with
    | zero =>
      cases e
      exact .vl (.scr h)
    | succ i => simp at e
  · subst e
    unfold Out at o
    rw [if_neg (by rw [hf]; exact Bool.false_ne_true)] at o
    have h := o.sl 0 (some v) rfl
    cases h with
    | vl r =>
      cases r
      rfl
end
end LK

/-! From the top of the text to the law's end. -/
namespace LK
open PySem PySem.Spec PyProof.Rows L2
section
variable {P : Program} {w : World} {K : PySem.W.Frag} {mg : Str → Option Value} {base : Heap}
/-- no def stands between -/
theorem Facts.skip {S : Sy} {f lv : Nat} (fs : Facts P w K mg base (S.upto f) lv) (g : Nat) (h : ((List.range (g - f)).all fun i => !S.M.hf (f + i) && !S.M.hm (f + i)) = true) : Facts P w K mg base (S.upto g) lv := by
  have out : ∀ f', f' < g → ¬ f' < f → S.M.hf f' = false ∧ S.M.hm f' = false := fun f' h1 h2 => by
    have := List.all_eq_true.mp h (f' - f) (by simp; omega)
    have e : f + (f' - f) = f' := by omega
    rw [e] at this
    simpa using this
  refine ⟨fun f' h => ?_, fun f' h => ?_, fs.bl, fs.gl, fun c h => (fs.ex c h).up, fs.em, fun h => (fs.bd h).up (Nat.le_refl lv)⟩
  · have h' : (S.M.hf f' && decide (f' < g)) = true := h
    simp only [Bool.and_eq_true, decide_eq_true_eq] at h'
    by_cases e : f' < f
    · obtain ⟨a', g', h2⟩ := fs.fn f' (by show (S.M.hf f' && decide (f' < f)) = true; rw [h'.1]; simpa using e)
      exact ⟨a', g', h2.up (Nat.le_refl lv)⟩
    · rw [(out f' h'.2 e).1] at h'
      cases h'.1
  · have h' : (S.M.hm f' && decide (f' < g)) = true := h
    simp only [Bool.and_eq_true, decide_eq_true_eq] at h'
    by_cases e : f' < f
    · obtain ⟨q1, a', g', h2⟩ := fs.mt f' (by show (S.M.hm f' && decide (f' < f)) = true; rw [h'.1]; simpa using e)
      exact ⟨q1, a', g', h2.up (Nat.le_refl lv)⟩
    · rw [(out f' h'.2 e).2] at h'
      cases h'.1
/-- an own error's class -/
theorem excF_of {S : Sy} {c : Nat} {h : Heap} (X : K.In h) (G : h.Ns mainGlobals mg) (hc : S.ca c = He.ga K (S.M.ex c)) (g : (He.Fa.glo (S.M.ex c)).ok K = true) (e : (He.Fa.exc (S.M.ex c)).ok K = true) (b : excB K (S.M.ex c) = true) : ExcF K mg S c := by
  obtain ⟨e1, e2, e3, e4⟩ := He.exc_ok e
  simp only [excB, Bool.and_eq_true, decide_eq_true_eq] at b
  obtain ⟨⟨⟨⟨⟨⟨⟨b1, b2⟩, b3⟩, b4⟩, b5⟩, b6⟩, b7⟩, b8⟩ := b
  refine ⟨?_, ?_, ?_, ?_, ?_, ?_, ?_⟩
  · rw [hc]; exact He.glo_ok X G g
  · rw [hc]; exact e1
  · rw [hc]; exact e2
  · rw [hc]; exact e3
  · rw [hc]; exact e4
  · rw [hc]; exact ⟨b1, b2, e3, b3, b4, b5, b6, b7⟩
  · rw [hc]; exact b8
/-- a constant: a number, a pair of numbers -/
theorem gl_int {h : Heap} (X : K.In h) (G : h.Ns mainGlobals mg) {x : Str} {i : Int} (c : (He.Fa.int x i).ok K = true) : ∃ u v, mg x = some u ∧ RelV v u ∧ Rp K (fun _ => none) v (.int i) := by
  obtain ⟨t, e⟩ := He.int_ok X G c
  exact ⟨_, .int i, e, ⟨t, rfl⟩, .int i⟩
theorem gl_pair {h : Heap} (X : K.In h) (G : h.Ns mainGlobals mg) {x : Str} {i j : Int} (g : (He.Fa.glo x).ok K = true) (c : He.tupB K x [.int i, .int j] = true) : ∃ u v, mg x = some u ∧ RelV v u ∧ Rp K (fun _ => none) v (.tup [.int i, .int j]) :=
  ⟨_, .ref (He.ga K x), He.glo_ok X G g, rfl, .tup (He.tupB_ok c _) (.cons (.int i) (.cons (.int j) .nil))⟩
end
/-- the end (as the layer's, the errors' wish told by the world) -/
theorem walk_lk {l : PySem.W.OpenLaw} {n k : Nat} {q : Program} {loose : List Str} {XP : (Str → Option Value) → Heap → Prop} {YP : World → Heap → Prop} {d : DefRec} {x : Str}
    (hn : l.most = some n) (hn2 : n ≤ sizeLine) (hdf : d.params.defaults = []) (hr : Room k callerA)
    (F : ∀ (w : World) (mg : Str → Option Value) (fa : Addr) (h : Heap), YP w h → h.Ns mainGlobals mg → mg d.name = some (.ref fa) →
      ∃ (K : PySem.W.Frag) (fd : FuncData) (sp : Sp), K.In h ∧ (∀ (s : Shared) (u : Value), BindsTo s fd ⟨[u], []⟩ [(x, u)]) ∧
        (∀ (H : Hp) (a : Addr) (ns : List Int), ns.length ≤ n → Only H → SqL K H a (ns.map V.int) → sp [.ref a] H (fun v _ => v = .bl true) fun _ _ _ => False) ∧
        ∀ base : Heap, K.In base → base.Ns mainGlobals mg → FnOk l.prog w K mg base (L2.CX l.prog w) k fa fd [x] sp) :
    PySem.W.WalkO q loose XP YP l.row.toRowW d [] (fun f vs => PySem.call f vs) := by
  refine Att.attach_call hn hdf fun w s₀ s₁ mg mb fa o pm cd doc a vs ns G Y ho hd hcd hmg hobj hints hlen hg => ?_
  obtain ⟨K, fd, sp, KX, hb, hsp, hF⟩ := F w mg fa _ Y G.T.g hmg
  refine law_call KX G.T.g G.T.b G.T.builtins G.T.nolimit hg hobj hints (Nat.le_trans hlen hn2) hr hF hb (fun H hO hS => hsp H a ns hlen hO hS) fun H e s' z => ?_
  obtain ⟨_, _, _, _, _, _, _, _, _, _, _, _, z⟩ := z
  exact z.elim
end LK

/-! The object's class: its maker. -/
namespace LK
open PySem PySem.Spec PyProof.Rows L2
/-- self.f = f -/
def chkSelf (N : List Str) (sc : Scope) (f : Str) (i : Nat) (x : Stmt) : Bool := match x with
  | .Assign [.Attribute o a _] z _ => chkV N sc 0 o && chkV N sc i z && a == f
  | _ => false
def initN : List Str := ["self", "heads", "tails", "rows", "goal"]
def chkInit (sc : Scope) (xs : List Stmt) : Bool := match xs with
  | [a, b, c, d] => chkSelf initN sc "heads" 1 a && chkSelf initN sc "tails" 2 b && chkSelf initN sc "rows" 3 c && chkSelf initN sc "goal" 4 d
  | _ => false
theorem chkSelf_ok {X : Cx} {sc : Scope} (hN : X.N = initN) (hsc : X.env.scope = sc) {f : Str} {i : Nat} {x : Stmt} (h : chkSelf initN sc f i x = true) : PS X x (sFld X.K (tVar 0) (tVar i) f) := by
  unfold chkSelf at h
  split at h
  · simp only [Bool.and_eq_true] at h
    obtain ⟨⟨h1, h2⟩, h3⟩ := h
    have e := beq_iff_eq.mp h3
    subst e
    have vis : ∀ {k : Nat} {y : Expr}, chkV initN sc k y = true → PE X y (tVar k) ∧ ∃ s p, y = .Name s p := fun {k y} hk => by
      obtain ⟨s, p, rfl⟩ := chkV_inv hk
      simp only [chkV, Bool.and_eq_true, decide_eq_true_eq] at hk
      obtain ⟨⟨q1, q2⟩, q3⟩ := hk
      obtain ⟨d1, d2, _⟩ := okN q3
      refine ⟨pe_var (by rw [hN]; exact q1) ?_ d1 d2, s, p, rfl⟩
      unfold isVis at q2
      rw [hsc]
      split at q2
      · exact .inl (by assumption)
      · exact .inr (.inl (by assumption))
      · exact .inr (.inr (by assumption))
      · cases q2
    obtain ⟨v1, s1, p1, rfl⟩ := vis h1
    obtain ⟨v2, s2, p2, rfl⟩ := vis h2
    exact ps_fld v1 v2 rfl
  · cases h
section
variable {P : Program} {w : World} {K : PySem.W.Frag} {mg : Str → Option Value} {base : Heap}
theorem bd_of {S : Sy} {h : Heap} {x qual : Str} {params : Arguments} {bd : List Stmt} {sc : Scope} (X : K.In h) (G : h.Ns mainGlobals mg) (hbc : S.bc = He.ga K "Board") (hnm : S.M.bd = "Board") (g : (He.Fa.glo "Board").ok K = true) (c : (He.Fa.cls "Board").ok K = true)
    (n : ∀ f, (He.Fa.noat "Board" (flName f)).ok K = true) (m : (He.Fa.mkr "Board").ok K = true) (d : ∃ fd, FunD K x qual params bd sc [] [] (He.ma K (He.ga K "Board") "__init__") fd) (Sc : FnScope initN initN sc) (chk : chkInit sc bd = true)
    (hb : ∀ (kV doc pm : Value) (an : Option Addr) (cdv ct : Value) (us : List Value), us.length = initN.length → bindArgs (PySem.W.fnOf x qual params bd sc .none kV doc pm an cdv ct) ⟨us, []⟩ = pure (initN.zip us)) : BdF P w K mg base S 1 := by
  obtain ⟨fd, F⟩ := d
  have C := He.cls_ok c
  have nn : ∀ f, NoAttr K (He.ga K "Board") (flName f) := fun f => He.noat_ok (n f)
  refine ⟨by rw [hnm, hbc]; exact He.glo_ok X G g, by rw [hbc]; exact C, fun f => by rw [hbc]; exact nn f, _, fd, by rw [hbc]; exact He.mkr_ok m, F.bindsN hb, ?_⟩
  refine F.ok (k := 0) (N := initN) Sc (fun vs H Q E h => ?_) (fun cdv A outer s H vs Q E hr h => ?_)
  · obtain ⟨p, dx, a1, a2, a3, a4, rfl, _⟩ := h
    rfl
  · obtain ⟨p, dx, a1, a2, a3, a4, rfl, hp, hQ⟩ := h
    match bd, chk with
    | [x1, x2, x3, x4], chk =>
      simp only [chkInit, Bool.and_eq_true] at chk
      obtain ⟨⟨⟨c1, c2⟩, c3⟩, c4⟩ := chk
      refine ⟨_, pss_cons (chkSelf_ok rfl rfl c1) (pss_cons (chkSelf_ok rfl rfl c2) (pss_cons (chkSelf_ok rfl rfl c3) (pss_cons (chkSelf_ok rfl rfl c4) pss_nil))), ?_⟩
      have nb : ∀ f, NoAttr K S.bc (flName f) := fun f => by rw [hbc]; exact nn f
      have Cb : Cls K S.bc := by rw [hbc]; exact C
      refine ⟨_, rfl, _, rfl, p, S.bc, dx, _, rfl, hp, Cb, nb .heads, (by decide), ?_⟩
      refine ⟨_, rfl, _, rfl, p, S.bc, dx, _, rfl, upd_same, Cb, nb .tails, (show 1 < 1000 by decide), ?_⟩
      refine ⟨_, rfl, _, rfl, p, S.bc, dx, _, rfl, upd_same, Cb, nb .rows, (show 2 < 1000 by decide), ?_⟩
      refine ⟨_, rfl, _, rfl, p, S.bc, dx, _, rfl, upd_same, Cb, nb .goal, (show 3 < 1000 by decide), ?_⟩
      have e : ∀ (H : Hp) (o1 o2 : HO), upd (upd H p o1) p o2 = upd H p o2 := fun H o1 o2 => funext fun c => by
        by_cases hc : c = p
        · subst hc
          rw [upd_same, upd_same]
        · rw [upd_ne hc, upd_ne hc, upd_ne hc]
      show Q .non _
      rw [e, e, e]
      exact hQ
end
end LK

/-! Running a body of the language: numbers, fractions. -/
namespace LK
open PySem
def fr (r : Rat) : D := .tup [.int r.num, .int r.den]
/-- size of a fraction -/
def Sz (n : Nat) (r : Rat) : Prop := r.num.natAbs < 2 ^ n ∧ r.den < 2 ^ n
theorem log2_lt {n k : Nat} (h : n < 2 ^ k) (hk : 0 < k) : n.log2 < k := by
  by_cases h0 : n = 0
  · subst h0
    simpa using hk
  · exact (Nat.log2_lt h0).mpr h
theorem MulOk.of {i j : Int} {a b : Nat} (hi : i.natAbs < 2 ^ a) (hj : j.natAbs < 2 ^ b) (hab : a + b ≤ 900000) : MulOk i j := by
  refine .inr ?_
  have h1 := log2_lt (k := a + 1) (n := i.natAbs) (Nat.lt_of_lt_of_le hi (Nat.pow_le_pow_right (by decide) (by omega))) (by omega)
  have h2 := log2_lt (k := b + 1) (n := j.natAbs) (Nat.lt_of_lt_of_le hj (Nat.pow_le_pow_right (by decide) (by omega))) (by omega)
  omega
theorem MulOk.l {i j : Int} (h : -(2 ^ 64) < i ∧ i < 2 ^ 64) : MulOk i j := .inl (.inl h)
theorem MulOk.r {i j : Int} (h : -(2 ^ 64) < j ∧ j < 2 ^ 64) : MulOk i j := .inl (.inr h)
theorem DivOk.of {j : Int} {a : Nat} (h0 : j ≠ 0) (hj : j.natAbs < 2 ^ a) (ha : a < 9000) : DivOk j := ⟨h0, by
  have := log2_lt (k := a + 1) (n := j.natAbs) (Nat.lt_of_lt_of_le hj (Nat.pow_le_pow_right (by decide) (by omega))) (by omega)
  omega⟩
theorem natAbs_mul_lt {i j : Int} {a b : Nat} (hi : i.natAbs < 2 ^ a) (hj : j.natAbs < 2 ^ b) : (i * j).natAbs < 2 ^ (a + b) := by
  rw [Int.natAbs_mul, Nat.pow_add]
  exact Nat.mul_lt_mul'' hi hj
theorem natAbs_add_lt {i j : Int} {a : Nat} (hi : i.natAbs < 2 ^ a) (hj : j.natAbs < 2 ^ a) : (i + j).natAbs < 2 ^ (a + 1) := by
  rw [Nat.pow_succ]
  omega
theorem fdiv_pos {i j : Int} (h : 0 < j) : i.fdiv j = i / j := Int.fdiv_eq_ediv_of_nonneg i (Int.le_of_lt h)
theorem fmod_pos {i j : Int} (h : 0 < j) : i.fmod j = i % j := Int.fmod_eq_emod_of_nonneg i (Int.le_of_lt h)
/-! ### a python index -/
theorem atI_nn {α : Type} {xs : List α} {k : Nat} {x : α} (h : xs[k]? = some x) : L2.atI xs (k : Int) = some x := by
  obtain ⟨hl, hx⟩ := List.getElem?_eq_some_iff.mp h
  unfold L2.atI L2.ixN
  have h1 : (0 : Int) ≤ (k : Int) := by omega
  simp [hl, hx]
theorem iteB {c : Prop} [Decidable c] {A B : Prop} (h1 : c → A) (h2 : ¬ c → B) : if decide c = true then A else B := by
  by_cases h : c
  · rw [if_pos (decide_eq_true h)]; exact h1 h
  · rw [if_neg (by simpa using h)]; exact h2 h
theorem iteN {c : Prop} [Decidable c] {A B : Prop} (h1 : ¬ c → A) (h2 : c → B) : if (!decide c) = true then A else B := by
  by_cases h : c
  · rw [if_neg (by simpa using h)]; exact h2 h
  · rw [if_pos (by simpa using h)]; exact h1 h
theorem iteb {t : Bool} {A B : Prop} (h1 : t = true → A) (h2 : t = false → B) : if t = true then A else B := by
  cases t
  · exact h2 rfl
  · exact h1 rfl
theorem eqD_int (i j : Int) : eqD (.int i) (.int j) = decide (i = j) := by
  unfold eqD toPy
  by_cases h : i = j
  · subst h
    simp [PyData.eqv]
  · simp [PyData.eqv, h]
/-! ### equality -/
mutual
/-- neither truth nor object within -/
def plD : D → Bool
  | .non => true
  | .int _ => true
  | .str _ => true
  | .tup ds => plDs ds
  | .lst ds => plDs ds
  | _ => false
def plDs : List D → Bool
  | [] => true
  | d :: ds => plD d && plDs ds
end
mutual
theorem eqD_iff : ∀ (x y : D), plD x = true → plD y = true → (eqD x y = true ↔ x = y)
  | .non, y, _, h => by cases y <;> simp [eqD, toPy, PyData.eqv, plD] at h ⊢
  | .int i, y, _, h => by cases y <;> simp [eqD, toPy, PyData.eqv, plD] at h ⊢
  | .str s, y, _, h => by cases y <;> simp [eqD, toPy, PyData.eqv, plD] at h ⊢
  | .tup ds, y, h, h' => by
    cases y with
    | tup es =>
      have := eqDs_iff ds es (by simpa [plD] using h) (by simpa [plD] using h')
      simpa [eqD, toPy, PyData.eqv] using this
    | _ => simp [eqD, toPy, PyData.eqv, plD] at h' ⊢
  | .lst ds, y, h, h' => by
    cases y with
    | lst es =>
      have := eqDs_iff ds es (by simpa [plD] using h) (by simpa [plD] using h')
      simpa [eqD, toPy, PyData.eqv] using this
    | _ => simp [eqD, toPy, PyData.eqv, plD] at h' ⊢
  | .bl _, _, h, _ => by simp [plD] at h
  | .scr _, _, h, _ => by simp [plD] at h
  | .brd _, _, h, _ => by simp [plD] at h
theorem eqDs_iff : ∀ (xs ys : List D), plDs xs = true → plDs ys = true → (PyData.eqvAll (toPys xs) (toPys ys) = true ↔ xs = ys)
  | [], [], _, _ => by simp [toPys, PyData.eqvAll]
  | [], _ :: _, _, _ => by simp [toPys, PyData.eqvAll]
  | _ :: _, [], _, _ => by simp [toPys, PyData.eqvAll]
  | x :: xs, y :: ys, h, h' => by
    simp only [plDs, Bool.and_eq_true] at h h'
    have h1 := eqD_iff x y h.1 h'.1
    have h2 := eqDs_iff xs ys h.2 h'.2
    simp only [toPys, PyData.eqvAll, Bool.and_eq_true, List.cons.injEq]
    rw [← h1, ← h2]
    rfl
end
theorem cmpOks_ints : ∀ (ns : List Int) (n : Nat), cmpOks n (ns.map .int) = true
  | [], _ => rfl
  | i :: ns, n => by
    simp only [List.map_cons, cmpOks, cmpOks_ints ns n, Bool.and_true]
    cases n <;> rfl
theorem plDs_ints : ∀ (ns : List Int), plDs (ns.map .int) = true
  | [] => rfl
  | i :: ns => by simp only [List.map_cons, plDs, plD, plDs_ints ns, Bool.and_true]
theorem eqD_scr_nil {ns : List Int} : eqD (.scr ns) (.lst []) = true ↔ ns = [] := by
  cases ns <;> simp [eqD, toPy, toPys, PyData.eqv, PyData.eqvAll]
/-! ### one step each -/
section
variable {i j : Int} {s : Str} {ds es : List D} {ns : List Int} {d x y : D} {Q : D → Prop} {t : Bool}
theorem e_neg : w1 .neg (.int i) Q = Q (.int (-i)) := rfl
theorem e_abs : w1 .abs (.int i) Q = Q (.int (i.natAbs : Int)) := rfl
theorem e_lent : w1 .len (.tup ds) Q = Q (.int ds.length) := rfl
theorem e_lenl : w1 .len (.lst ds) Q = Q (.int ds.length) := rfl
theorem e_lens : w1 .len (.scr ns) Q = Q (.int ns.length) := rfl
theorem e_lenS : w1 .len (.str s) Q = (s.length ≤ 1000000 ∧ Q (.int s.length)) := rfl
theorem e_tupt : w1 .tupO (.tup ds) Q = Q (.tup ds) := rfl
theorem e_tupl : w1 .tupO (.lst ds) Q = Q (.tup ds) := rfl
theorem e_lstt : w1 .lstO (.tup ds) Q = Q (.lst ds) := rfl
theorem e_lstl : w1 .lstO (.lst ds) Q = Q (.lst ds) := rfl
theorem e_inti : w1 .intO (.int i) Q = Q (.int i) := rfl
theorem e_intb : w1 .intO (.bl t) Q = Q (.int (if t then 1 else 0)) := rfl
theorem e_str : w1 .strO (.int i) Q = (i.natAbs.log2 < 1920 ∧ Q (.str (toString i))) := rfl
theorem e_isInt : w1 .isInt d Q = (isBrdD d = false ∧ Q (.bl (isIntD d))) := by cases d <;> rfl
theorem e_isBool : w1 .isBool d Q = (isBrdD d = false ∧ Q (.bl (isBoolD d))) := by cases d <;> rfl
theorem e_isTup : w1 .isTup d Q = (isBrdD d = false ∧ Q (.bl (isTupD d))) := by cases d <;> rfl
theorem e_isLst : w1 .isLst d Q = (isBrdD d = false ∧ Q (.bl (isLstD d))) := by cases d <;> rfl
theorem e_isStr : w1 .isStr d Q = (isBrdD d = false ∧ Q (.bl (isStrD d))) := by cases d <;> rfl
theorem e_isN : w1 .isN d Q = Q (.bl (isNonD d)) := by cases d <;> rfl
theorem e_notN : w1 .notN d Q = Q (.bl (!isNonD d)) := by cases d <;> rfl
theorem e_add : w2 .add (.int i) (.int j) Q = Q (.int (i + j)) := rfl
theorem e_sub : w2 .sub (.int i) (.int j) Q = Q (.int (i - j)) := rfl
theorem e_mul : w2 .mul (.int i) (.int j) Q = (MulOk i j ∧ Q (.int (i * j))) := rfl
theorem e_fdiv : w2 .fdiv (.int i) (.int j) Q = (DivOk j ∧ Q (.int (i.fdiv j))) := rfl
theorem e_mod : w2 .mod (.int i) (.int j) Q = (j ≠ 0 ∧ Q (.int (i.fmod j))) := rfl
theorem e_pow : w2 .pow (.int i) (.int j) Q = ((0 ≤ j ∧ j ≤ 1000000 ∧ i.natAbs < 2 ^ 64) ∧ Q (.int (i ^ j.toNat))) := rfl
theorem e_lt : w2 .lt (.int i) (.int j) Q = Q (.bl (decide (i < j))) := rfl
theorem e_le : w2 .le (.int i) (.int j) Q = Q (.bl (decide (i ≤ j))) := rfl
theorem e_gt : w2 .gt (.int i) (.int j) Q = Q (.bl (decide (j < i))) := rfl
theorem e_ge : w2 .ge (.int i) (.int j) Q = Q (.bl (decide (j ≤ i))) := rfl
theorem e_eqi : w2 .eq (.int i) (.int j) Q = Q (.bl (decide (i = j))) := by
  show (cmpOk 20 (.int i) = true ∧ cmpOk 20 (.int j) = true ∧ Q (.bl (eqD (.int i) (.int j)))) = _
  rw [eqD_int]
  simp [cmpOk]
theorem e_nei : w2 .ne (.int i) (.int j) Q = Q (.bl (!decide (i = j))) := by
  show (cmpOk 20 (.int i) = true ∧ cmpOk 20 (.int j) = true ∧ Q (.bl (!eqD (.int i) (.int j)))) = _
  rw [eqD_int]
  simp [cmpOk]
theorem e_eq : w2 .eq x y Q = (cmpOk 20 x = true ∧ cmpOk 20 y = true ∧ Q (.bl (eqD x y))) := by cases x <;> cases y <;> rfl
theorem e_ne : w2 .ne x y Q = (cmpOk 20 x = true ∧ cmpOk 20 y = true ∧ Q (.bl (!eqD x y))) := by cases x <;> cases y <;> rfl
theorem e_cat : w2 .cat (.lst ds) (.lst es) Q = (ds.length + es.length ≤ 1000000 ∧ Q (.lst (ds ++ es))) := rfl
theorem e_tcat : w2 .tcat (.tup ds) (.tup es) Q = (ds.length + es.length ≤ 1000000 ∧ Q (.tup (ds ++ es))) := rfl
theorem e_ixl : w2 .ix (.lst ds) (.int i) Q = ∃ d, L2.atI ds i = some d ∧ Q d := rfl
theorem e_ixt : w2 .ix (.tup ds) (.int i) Q = ∃ d, L2.atI ds i = some d ∧ Q d := rfl
theorem e_ixs : w2 .ix (.scr ns) (.int i) Q = ∃ d, L2.atI ns i = some d ∧ Q (.int d) := rfl
theorem e_ixt0 : w2 .ix (.tup (d :: ds)) (.int 0) Q = Q d := by
  apply propext
  constructor
  · rintro ⟨z, h, q⟩
    have e : L2.atI (d :: ds) 0 = some d := by simp [L2.atI, L2.ixN]
    rw [e] at h
    cases h
    exact q
  · exact fun q => ⟨d, by simp [L2.atI, L2.ixN], q⟩
theorem e_ixt1 : w2 .ix (.tup (x :: d :: ds)) (.int 1) Q = Q d := by
  apply propext
  have e : L2.atI (x :: d :: ds) 1 = some d := atI_nn (xs := x :: d :: ds) (k := 1) (x := d) rfl
  constructor
  · rintro ⟨z, h, q⟩
    rw [e] at h
    cases h
    exact q
  · exact fun q => ⟨d, e, q⟩
theorem e_ixt2 : w2 .ix (.tup (x :: y :: d :: ds)) (.int 2) Q = Q d := by
  apply propext
  have e : L2.atI (x :: y :: d :: ds) 2 = some d := atI_nn (xs := x :: y :: d :: ds) (k := 2) (x := d) rfl
  constructor
  · rintro ⟨z, h, q⟩
    rw [e] at h
    cases h
    exact q
  · exact fun q => ⟨d, e, q⟩
theorem e_max : w2 .max (.int i) (.int j) Q = Q (.int (if j > i then j else i)) := rfl
theorem e_min : w2 .min (.int i) (.int j) Q = Q (.int (if j < i then j else i)) := rfl
theorem e_test {P : Bool → Prop} : wtest (.bl t) P = P t := rfl
theorem e_seql {R : List D → Prop} : wseq (.lst ds) R = R ds := rfl
theorem e_seqt {R : List D → Prop} : wseq (.tup ds) R = R ds := rfl
theorem e_seqs {R : List D → Prop} : wseq (.scr ns) R = R (ns.map .int) := rfl
theorem e_rng {R : List D → Prop} : wrng (.int j) R = ((-(2 ^ 62) ≤ j ∧ j < 2 ^ 62) ∧ R (rngD 0 j.toNat)) := rfl
theorem e_rng2 {R : List D → Prop} : wrng2 (.int i) (.int j) R = ((-(2 ^ 62) ≤ i ∧ i < 2 ^ 62 ∧ -(2 ^ 62) ≤ j ∧ j < 2 ^ 62) ∧ R (rngD i (j - i).toNat)) := rfl
theorem e_zipl {R : List D → Prop} : wzip (.lst ds) (.lst es) R = R (zipD ds es) := rfl
theorem e_zipt {R : List D → Prop} : wzip (.tup ds) (.lst es) R = R (zipD ds es) := rfl
theorem e_ziptt {R : List D → Prop} : wzip (.tup ds) (.tup es) R = R (zipD ds es) := rfl
theorem e_sll {lo hi : Option Int} : wsl (.lst ds) lo hi Q = Q (.lst (cutL ds lo hi)) := rfl
theorem e_slt {lo hi : Option Int} : wsl (.tup ds) lo hi Q = Q (.tup (cutL ds lo hi)) := rfl
theorem e_sls {lo hi : Option Int} : wsl (.scr ns) lo hi Q = Q (.lst ((cutL ns lo hi).map .int)) := rfl
theorem e_nm {k : Nat} {δ : Env} {P : Env → Prop} : binds (.nm k) x δ P = P (st δ k (.vl x)) := by cases x <;> rfl
theorem e_pr {k l : Nat} {δ : Env} {P : Env → Prop} : binds (.pr k l) (.tup [x, y]) δ P = P (st (st δ k (.vl x)) l (.vl y)) := rfl
end
theorem wB_nil {G : Gm} {k : Kt} {δ : Env} {b : Ob} : wB G .nil k δ b = k.nx δ b := rfl
end LK

/-! Loops over data. -/
namespace LK
open PySem
/-- a comprehension that maps -/
theorem wmap_map {step : D → Ob → (Option D → Ob → Prop) → Prop} {f : D → D} {b : Ob} {Q : List D → Ob → Prop} : ∀ {xs acc : List D}, (∀ x ∈ xs, ∀ R : Option D → Ob → Prop, R (some (f x)) b → step x b R) → Q (acc ++ xs.map f) b → wmap step xs acc b Q
  | [], acc, _, h => by
    rw [List.map_nil, List.append_nil] at h
    exact h
  | x :: xs, acc, hs, h => hs x List.mem_cons_self _ (wmap_map (xs := xs) (acc := acc ++ [f x]) (fun y hy => hs y (List.mem_cons_of_mem _ hy)) (by
    rw [List.append_assoc]
    exact h))
/-- .. that may leave items out -/
theorem wmap_filterMap {step : D → Ob → (Option D → Ob → Prop) → Prop} {f : D → Option D} {b : Ob} {Q : List D → Ob → Prop} : ∀ {xs acc : List D}, (∀ x ∈ xs, ∀ R : Option D → Ob → Prop, R (f x) b → step x b R) → Q (acc ++ xs.filterMap f) b → wmap step xs acc b Q
  | [], acc, _, h => by
    rw [List.filterMap_nil, List.append_nil] at h
    exact h
  | x :: xs, acc, hs, h => hs x List.mem_cons_self _ (by
    cases e : f x with
    | none =>
      refine wmap_filterMap (xs := xs) (acc := acc) (fun y hy => hs y (List.mem_cons_of_mem _ hy)) ?_
      rw [List.filterMap_cons_none e] at h
      exact h
    | some d =>
      refine wmap_filterMap (xs := xs) (acc := acc ++ [d]) (fun y hy => hs y (List.mem_cons_of_mem _ hy)) ?_
      rw [List.filterMap_cons_some e] at h
      rw [List.append_assoc]
      exact h)
/-- a loop with an invariant over what is done -/
theorem wfor_inv {step : D → Env → Ob → (Env → Ob → Prop) → Prop} {Q : Env → Ob → Prop} (I : List D → Env → Ob → Prop) : ∀ {xs : List D} (done : List D) {δ : Env} {b : Ob}, I done δ b →
    (∀ pre x post δ b, done ++ xs = pre ++ x :: post → I pre δ b → ∀ R : Env → Ob → Prop, (∀ δ' b', I (pre ++ [x]) δ' b' → R δ' b') → step x δ b R) → (∀ δ b, I (done ++ xs) δ b → Q δ b) → wfor step xs δ b Q
  | [], done, δ, b, h, _, hq => hq δ b (by rw [List.append_nil]; exact h)
  | x :: xs, done, δ, b, h, hs, hq => hs done x xs δ b rfl h _ fun δ' b' h' => wfor_inv I (xs := xs) (done ++ [x]) h'
    (fun pre y post δ b e => hs pre y post δ b (by rw [← e, List.append_assoc]; rfl)) fun δ b h => hq δ b (by rw [List.append_assoc] at h; exact h)
end LK

/-! Loops over typed data. -/
namespace LK
open PySem
theorem rngD_eq (n : Nat) : rngD 0 n = (List.range n).map fun k : Nat => D.int (k : Int) := by
  unfold rngD
  exact List.map_congr_left fun k _ => by simp
theorem wfor_map {α : Type} {step : D → Env → Ob → (Env → Ob → Prop) → Prop} {Q : Env → Ob → Prop} (enc : α → D) (I : List α → Env → Ob → Prop) {xs : List α} {δ : Env} {b : Ob} (h0 : I [] δ b)
    (hs : ∀ pre x post, xs = pre ++ x :: post → ∀ δ b, I pre δ b → ∀ R : Env → Ob → Prop, (∀ δ' b', I (pre ++ [x]) δ' b' → R δ' b') → step (enc x) δ b R) (hq : ∀ δ b, I xs δ b → Q δ b) : wfor step (xs.map enc) δ b Q := by
  suffices gen : ∀ (post done : List α) (δ : Env) (b : Ob), xs = done ++ post → I done δ b → wfor step (post.map enc) δ b Q from gen xs [] δ b rfl h0
  intro post
  induction post with
  | nil =>
    intro done δ b e h
    rw [List.append_nil] at e
    subst e
    exact hq δ b h
  | cons x post ih =>
    intro done δ b e h
    exact hs done x post e δ b h _ fun δ' b' h' => ih (done ++ [x]) δ' b' (by rw [e, List.append_assoc]; rfl) h'
theorem wfor_range {step : D → Env → Ob → (Env → Ob → Prop) → Prop} {Q : Env → Ob → Prop} (I : Nat → Env → Ob → Prop) {n : Nat} {δ : Env} {b : Ob} (h0 : I 0 δ b)
    (hs : ∀ k, k < n → ∀ δ b, I k δ b → ∀ R : Env → Ob → Prop, (∀ δ' b', I (k + 1) δ' b' → R δ' b') → step (.int (k : Int)) δ b R) (hq : ∀ δ b, I n δ b → Q δ b) : wfor step (rngD 0 n) δ b Q := by
  rw [rngD_eq]
  refine wfor_map (fun k : Nat => D.int (k : Int)) (fun pre => I pre.length) h0 (fun pre x post e δ b h R hR => ?_) fun δ b h => hq δ b (by rw [List.length_range] at h; exact h)
  have hl : pre.length < n := by
    have := congrArg List.length e
    simp at this
    omega
  have hx : x = pre.length := by
    have h1 : (List.range n)[pre.length]? = some x := by rw [e]; simp
    rw [List.getElem?_range hl] at h1
    exact (Option.some.inj h1).symm
  subst hx
  exact hs _ hl δ b h R fun δ' b' h' => hR δ' b' (by rw [List.length_append]; exact h')
theorem wmap_enc {α : Type} {step : D → Ob → (Option D → Ob → Prop) → Prop} {b : Ob} {Q : List D → Ob → Prop} (enc g : α → D) {xs : List α} {acc : List D} (hs : ∀ x ∈ xs, ∀ R : Option D → Ob → Prop, R (some (g x)) b → step (enc x) b R) (h : Q (acc ++ xs.map g) b) : wmap step (xs.map enc) acc b Q := by
  induction xs generalizing acc with
  | nil =>
    rw [List.map_nil, List.append_nil] at h
    exact h
  | cons x xs ih =>
    refine hs x List.mem_cons_self _ (ih (acc := acc ++ [g x]) (fun y hy => hs y (List.mem_cons_of_mem _ hy)) ?_)
    rw [List.append_assoc]
    exact h
theorem wmap_e {α : Type} {step : D → Ob → (Option D → Ob → Prop) → Prop} {b : Ob} {Q : List D → Ob → Prop} (enc g : α → D) {xs : List α} (hs : ∀ x ∈ xs, ∀ R : Option D → Ob → Prop, R (some (g x)) b → step (enc x) b R) (h : Q (xs.map g) b) : wmap step (xs.map enc) [] b Q :=
  wmap_enc enc g hs (by rw [List.nil_append]; exact h)
theorem wmap_range {step : D → Ob → (Option D → Ob → Prop) → Prop} {b : Ob} {Q : List D → Ob → Prop} (g : Nat → D) {n : Nat} (hs : ∀ k, k < n → ∀ R : Option D → Ob → Prop, R (some (g k)) b → step (.int (k : Int)) b R) (h : Q ((List.range n).map g) b) : wmap step (rngD 0 n) [] b Q := by
  rw [rngD_eq]
  exact wmap_e (fun k : Nat => D.int (k : Int)) g (fun x hx => hs x (by simpa using hx)) h
/-- a comprehension that may leave items out -/
theorem wmap_filt {α : Type} {step : D → Ob → (Option D → Ob → Prop) → Prop} {b : Ob} {Q : List D → Ob → Prop} (enc g : α → D) (p : α → Bool) {xs : List α} {acc : List D} (hs : ∀ x ∈ xs, ∀ R : Option D → Ob → Prop, R (if p x then some (g x) else none) b → step (enc x) b R) (h : Q (acc ++ (xs.filter p).map g) b) : wmap step (xs.map enc) acc b Q := by
  induction xs generalizing acc with
  | nil =>
    rw [List.filter_nil, List.map_nil, List.append_nil] at h
    exact h
  | cons x xs ih =>
    refine hs x List.mem_cons_self _ ?_
    cases e : p x with
    | true =>
      rw [List.filter_cons_of_pos e] at h
      rw [if_pos rfl]
      refine ih (acc := acc ++ [g x]) (fun y hy => hs y (List.mem_cons_of_mem _ hy)) ?_
      rw [List.append_assoc]
      exact h
    | false =>
      rw [List.filter_cons_of_neg (by rw [e]; exact Bool.false_ne_true)] at h
      rw [if_neg Bool.false_ne_true]
      exact ih (acc := acc) (fun y hy => hs y (List.mem_cons_of_mem _ hy)) h
/-- a comprehension over what may be anything of a kind -/
theorem wmap_any {α β : Type} {step : D → Ob → (Option D → Ob → Prop) → Prop} {b : Ob} {Q : List D → Ob → Prop} (enc : α → D) (enc' : β → D) (P : α → β → Prop) {xs : List α} {acc : List D}
    (hs : ∀ x ∈ xs, ∀ R : Option D → Ob → Prop, (∀ y, P x y → R (some (enc' y)) b) → step (enc x) b R) (h : ∀ ys : List β, ys.length = xs.length → (∀ (k : Nat) (x : α) (y : β), xs[k]? = some x → ys[k]? = some y → P x y) → Q (acc ++ ys.map enc') b) : wmap step (xs.map enc) acc b Q := by
  induction xs generalizing acc with
  | nil => simpa [wmap] using h [] rfl (by simp)
  | cons x xs ih =>
    refine hs x List.mem_cons_self _ fun y hy => ih (acc := acc ++ [enc' y]) (fun z hz => hs z (List.mem_cons_of_mem _ hz)) fun ys hl hp => ?_
    have := h (y :: ys) (by simp [hl]) (fun k a c h1 h2 => by
      cases k with
      | zero =>
        simp at h1 h2
        subst h1 h2
        exact hy
      | succ k => exact hp k a c (by simpa using h1) (by simpa using h2))
    rw [List.append_assoc]
    exact this
theorem wmap_rangeP {β : Type} {step : D → Ob → (Option D → Ob → Prop) → Prop} {b : Ob} {Q : List D → Ob → Prop} (enc' : β → D) (P : Nat → β → Prop) {n : Nat}
    (hs : ∀ k, k < n → ∀ R : Option D → Ob → Prop, (∀ y, P k y → R (some (enc' y)) b) → step (.int (k : Int)) b R) (h : ∀ ys : List β, ys.length = n → (∀ (k : Nat) (y : β), ys[k]? = some y → P k y) → Q (ys.map enc') b) : wmap step (rngD 0 n) [] b Q := by
  rw [rngD_eq]
  refine wmap_any (fun k : Nat => D.int (k : Int)) enc' P (fun x hx => hs x (by simpa using hx)) fun ys hl hp => ?_
  rw [List.nil_append]
  rw [List.length_range] at hl
  exact h ys hl fun k y hk => hp k k y (by
    have : k < ys.length := (List.getElem?_eq_some_iff.mp hk).1
    exact List.getElem?_range (by omega)) hk
theorem zipD_map {α β : Type} (f : α → D) (g : β → D) : ∀ (xs : List α) (ys : List β), zipD (xs.map f) (ys.map g) = (xs.zip ys).map fun p => .tup [f p.1, g p.2]
  | [], ys => by simp [zipD]
  | x :: xs, [] => by simp [zipD]
  | x :: xs, y :: ys => by
    simp only [List.map_cons, zipD, List.zip_cons_cons]
    rw [zipD_map f g xs ys]
theorem atI_mapD {α : Type} {f : α → D} {xs : List α} {k : Nat} (d : α) (h : k < xs.length) : L2.atI (xs.map f) (k : Int) = some (f (xs.getD k d)) := by
  apply atI_nn
  rw [List.getElem?_map, List.getElem?_eq_getElem h]
  simp [List.getD, h]
theorem ix_l {α : Type} {f : α → D} {xs : List α} {k : Nat} {Q : D → Prop} (d : α) (h : k < xs.length) (q : Q (f (xs.getD k d))) : w2 .ix (.lst (xs.map f)) (.int (k : Int)) Q := ⟨_, atI_mapD d h, q⟩
theorem ix_t {α : Type} {f : α → D} {xs : List α} {k : Nat} {Q : D → Prop} (d : α) (h : k < xs.length) (q : Q (f (xs.getD k d))) : w2 .ix (.tup (xs.map f)) (.int (k : Int)) Q := ⟨_, atI_mapD d h, q⟩
theorem len_map {α : Type} {f : α → D} {xs : List α} : (((xs.map f).length : Nat) : Int) = xs.length := by rw [List.length_map]
/-! ### equality with truths -/
mutual
/-- neither scripts nor objects -/
def clD : D → Bool
  | .tup ds => clDs ds
  | .lst ds => clDs ds
  | .scr _ => false
  | .brd _ => false
  | _ => true
def clDs : List D → Bool
  | [] => true
  | d :: ds => clD d && clDs ds
end
theorem clD_brd {d : D} (h : clD d = true) : isBrdD d = false := by cases d <;> first | rfl | cases h
theorem clDs_mem : ∀ {ds : List D}, clDs ds = true → ∀ d ∈ ds, clD d = true
  | [], _, d, h => by simp at h
  | e :: es, h, d, hd => by
    simp only [clDs, Bool.and_eq_true] at h
    rcases List.mem_cons.mp hd with q | q
    · rw [q]; exact h.1
    · exact clDs_mem h.2 d q
theorem clDs_of : ∀ {ds : List D}, (∀ d ∈ ds, clD d = true) → clDs ds = true
  | [], _ => rfl
  | e :: es, h => by
    simp only [clDs, Bool.and_eq_true]
    exact ⟨h e (by simp), clDs_of fun d hd => h d (by simp [hd])⟩
end LK
namespace LK
open PySem
def tk : Nat → Sms → Sms
  | 0, _ => .nil
  | _ + 1, .nil => .nil
  | n + 1, .cons s r => .cons s (tk n r)
def dp : Nat → Sms → Sms
  | 0, r => r
  | _ + 1, .nil => .nil
  | n + 1, .cons _ r => dp n r
/-- a body in two parts -/
theorem wB_split {G : Gm} : ∀ (n : Nat) {B : Sms} {k : Kt} {δ : Env} {b : Ob}, wB G (tk n B) { k with nx := fun δ' b' => wB G (dp n B) k δ' b' } δ b → wB G B k δ b
  | 0, B, k, δ, b, h => by simpa only [tk, dp, wB] using h
  | n + 1, .nil, k, δ, b, h => by simpa only [tk, dp, wB] using h
  | n + 1, .cons s r, k, δ, b, h => by
    simp only [tk, dp, wB] at h ⊢
    have e : (fun δ' b' => wB G r k δ' b') = fun δ' b' => wB G r k δ' b' := rfl
    have key : ∀ δ' b', wB G (tk n r) { k with nx := fun δ' b' => wB G (dp n r) k δ' b' } δ' b' = wB G r k δ' b' := fun δ' b' => propext (wB_split_iff n r k δ' b')
    simp only [key] at h
    exact h
where
  wB_split_iff : ∀ (n : Nat) (r : Sms) (k : Kt) (δ : Env) (b : Ob), wB G (tk n r) { k with nx := fun δ' b' => wB G (dp n r) k δ' b' } δ b ↔ wB G r k δ b
  | 0, r, k, δ, b => by simp only [tk, dp, wB]
  | n + 1, .nil, k, δ, b => by simp only [tk, dp, wB]
  | n + 1, .cons s r, k, δ, b => by
    simp only [tk, dp, wB]
    have key : ∀ δ' b', wB G (tk n r) { k with nx := fun δ' b' => wB G (dp n r) k δ' b' } δ' b' = wB G r k δ' b' := fun δ' b' => propext (wB_split_iff n r k δ' b')
    simp only [key]
theorem wfor_idx {α : Type} {step : D → Env → Ob → (Env → Ob → Prop) → Prop} {Q : Env → Ob → Prop} (enc : α → D) (d : α) (I : Nat → Env → Ob → Prop) {xs : List α} {δ : Env} {b : Ob} (h0 : I 0 δ b)
    (hs : ∀ k, k < xs.length → ∀ δ b, I k δ b → ∀ R : Env → Ob → Prop, (∀ δ' b', I (k + 1) δ' b' → R δ' b') → step (enc (xs.getD k d)) δ b R) (hq : ∀ δ b, I xs.length δ b → Q δ b) : wfor step (xs.map enc) δ b Q := by
  refine wfor_map enc (fun pre => I pre.length) h0 (fun pre x post e δ b h R hR => ?_) hq
  have hl : pre.length < xs.length := by rw [e]; simp
  have hx : xs.getD pre.length d = x := by rw [e]; simp [List.getD]
  rw [← hx]
  exact hs _ hl δ b h R fun δ' b' h' => hR δ' b' (by rw [List.length_append]; exact h')
end LK

namespace LK
open PySem
/- 0: _law_number -/
def N_0 : List Str := (["_law_cell", "_law_wide", "_law_number_here"] : List Str)
def B_0 : Sms := (.cons (.asg 2 (.op2 .mod (.var 0) (.op2 .add (.op2 .mul (.cst (.int 2)) (.var 1)) (.cst (.int 1))))) (.cons (.ite (.op2 .gt (.var 2) (.var 1)) (.cons (.ret (.op2 .sub (.op2 .sub (.var 2) (.op2 .mul (.cst (.int 2)) (.var 1))) (.cst (.int 1)))) .nil) .nil) (.cons (.ret (.var 2)) .nil)))
/- 1: _law_cell_at -/
def N_1 : List Str := (["_law_script", "_law_k"] : List Str)
def B_1 : Sms := (.cons (.ite (.op2 .lt (.var 1) (.op1 .len (.var 0))) (.cons (.ret (.op2 .ix (.var 0) (.var 1))) .nil) .nil) (.cons (.ite (.op2 .eq (.var 0) (.lst .nil)) (.cons (.ret (.cst (.int 0))) .nil) .nil) (.cons (.ret (.op2 .add (.op2 .mul (.op2 .ix (.var 0) (.op2 .mod (.var 1) (.op1 .len (.var 0)))) (.cst (.int 31))) (.var 1))) .nil)))
/- 2: _law_drawn -/
def N_2 : List Str := (["_law_script", "_law_at", "_law_upper", "_law_lower"] : List Str)
def B_2 : Sms := (.cons (.asg 2 (.call 0 (.cons (.call 1 (.cons (.var 0) (.cons (.var 1) .nil))) (.cons (.op2 .ix (.lst (.cons (.cst (.int 4)) (.cons (.op2 .pow (.cst (.int 10)) (.cst (.int 20))) .nil))) (.op2 .mod (.call 1 (.cons (.var 0) (.cons (.op2 .add (.var 1) (.cst (.int 1))) .nil))) (.cst (.int 2)))) .nil)))) (.cons (.asg 3 (.op2 .add (.cst (.int 1)) (.op2 .mod (.call 1 (.cons (.var 0) (.cons (.op2 .add (.var 1) (.cst (.int 2))) .nil))) (.op2 .ix (.lst (.cons (.cst (.int 9)) (.cons (.op2 .pow (.cst (.int 10)) (.cst (.int 20))) .nil))) (.op2 .mod (.call 1 (.cons (.var 0) (.cons (.op2 .add (.var 1) (.cst (.int 3))) .nil))) (.cst (.int 2))))))) (.cons (.ite (.op2 .eq (.op2 .mod (.call 1 (.cons (.var 0) (.cons (.op2 .add (.var 1) (.cst (.int 4))) .nil))) (.cst (.int 2))) (.cst (.int 1))) (.cons (.asg 3 (.op1 .neg (.var 3))) .nil) .nil) (.cons (.ret (.tup (.cons (.var 2) (.cons (.var 3) .nil)))) .nil))))
/- 3: divisor -/
def N_3 : List Str := (["a", "b", "left"] : List Str)
def B_3 : Sms := (.cons (.asg 0 (.op1 .abs (.var 0))) (.cons (.asg 1 (.op1 .abs (.var 1))) (.cons (.whil (.op2 .ne (.var 1) (.cst (.int 0))) (.cons (.asg 2 (.op2 .mod (.var 0) (.var 1))) (.cons (.asg 0 (.var 1)) (.cons (.asg 1 (.var 2)) .nil)))) (.cons (.ret (.var 0)) .nil))))
/- 4: frac -/
def N_4 : List Str := (["upper", "lower", "same"] : List Str)
def B_4 : Sms := (.cons (.ite (.op2 .lt (.var 1) (.cst (.int 0))) (.cons (.asg 0 (.op1 .neg (.var 0))) (.cons (.asg 1 (.op1 .neg (.var 1))) .nil)) .nil) (.cons (.asg 2 (.call 3 (.cons (.var 0) (.cons (.var 1) .nil)))) (.cons (.ret (.tup (.cons (.op2 .fdiv (.var 0) (.var 2)) (.cons (.op2 .fdiv (.var 1) (.var 2)) .nil)))) .nil)))
/- 5: below -/
def N_5 : List Str := (["a", "b"] : List Str)
def B_5 : Sms := (.cons (.ret (.op2 .lt (.op2 .mul (.op2 .ix (.var 0) (.cst (.int 0))) (.op2 .ix (.var 1) (.cst (.int 1)))) (.op2 .mul (.op2 .ix (.var 1) (.cst (.int 0))) (.op2 .ix (.var 0) (.cst (.int 1)))))) .nil)
/- 6: _law_divisor -/
def N_6 : List Str := (["_law_a", "_law_b", "_law_left"] : List Str)
def B_6 : Sms := (.cons (.asg 0 (.op1 .abs (.var 0))) (.cons (.asg 1 (.op1 .abs (.var 1))) (.cons (.whil (.op2 .ne (.var 1) (.cst (.int 0))) (.cons (.asg 2 (.op2 .mod (.var 0) (.var 1))) (.cons (.asg 0 (.var 1)) (.cons (.asg 1 (.var 2)) .nil)))) (.cons (.ret (.var 0)) .nil))))
/- 7: _law_whole -/
def N_7 : List Str := (["_law_found"] : List Str)
def B_7 : Sms := (.cons (.ret (.and (.op1 .isInt (.var 0)) (.one (.not (.op1 .isBool (.var 0)))))) .nil)
/- 8: _law_is_fraction -/
def N_8 : List Str := (["_law_found"] : List Str)
def B_8 : Sms := (.cons (.ite (.or (.not (.op1 .isTup (.var 0))) (.one (.op2 .ne (.op1 .len (.var 0)) (.cst (.int 2))))) (.cons (.ret (.cst (.bl false))) .nil) .nil) (.cons (.ite (.or (.not (.call 7 (.cons (.op2 .ix (.var 0) (.cst (.int 0))) .nil))) (.or (.not (.call 7 (.cons (.op2 .ix (.var 0) (.cst (.int 1))) .nil))) (.one (.op2 .lt (.op2 .ix (.var 0) (.cst (.int 1))) (.cst (.int 1)))))) (.cons (.ret (.cst (.bl false))) .nil) .nil) (.cons (.ret (.op2 .eq (.call 6 (.cons (.op2 .ix (.var 0) (.cst (.int 0))) (.cons (.op2 .ix (.var 0) (.cst (.int 1))) .nil))) (.cst (.int 1)))) .nil)))
/- 10: plus -/
def N_10 : List Str := (["a", "b"] : List Str)
def B_10 : Sms := (.cons (.ret (.call 4 (.cons (.op2 .add (.op2 .mul (.op2 .ix (.var 0) (.cst (.int 0))) (.op2 .ix (.var 1) (.cst (.int 1)))) (.op2 .mul (.op2 .ix (.var 1) (.cst (.int 0))) (.op2 .ix (.var 0) (.cst (.int 1))))) (.cons (.op2 .mul (.op2 .ix (.var 0) (.cst (.int 1))) (.op2 .ix (.var 1) (.cst (.int 1)))) .nil)))) .nil)
/- 11: turned -/
def N_11 : List Str := (["a"] : List Str)
def B_11 : Sms := (.cons (.ret (.tup (.cons (.op1 .neg (.op2 .ix (.var 0) (.cst (.int 0)))) (.cons (.op2 .ix (.var 0) (.cst (.int 1))) .nil)))) .nil)
/- 12: less -/
def N_12 : List Str := (["a", "b"] : List Str)
def B_12 : Sms := (.cons (.ret (.call 10 (.cons (.var 0) (.cons (.call 11 (.cons (.var 1) .nil)) .nil)))) .nil)
/- 13: times -/
def N_13 : List Str := (["a", "b"] : List Str)
def B_13 : Sms := (.cons (.ret (.call 4 (.cons (.op2 .mul (.op2 .ix (.var 0) (.cst (.int 0))) (.op2 .ix (.var 1) (.cst (.int 0)))) (.cons (.op2 .mul (.op2 .ix (.var 0) (.cst (.int 1))) (.op2 .ix (.var 1) (.cst (.int 1)))) .nil)))) .nil)
/- 14: over -/
def N_14 : List Str := (["a", "b"] : List Str)
def B_14 : Sms := (.cons (.ret (.call 4 (.cons (.op2 .mul (.op2 .ix (.var 0) (.cst (.int 0))) (.op2 .ix (.var 1) (.cst (.int 1)))) (.cons (.op2 .mul (.op2 .ix (.var 0) (.cst (.int 1))) (.op2 .ix (.var 1) (.cst (.int 0)))) .nil)))) .nil)
/- 16: _law_desk -/
def N_16 : List Str := (["_law_script", "_law_kinds", "_law_many", "_law_wide", "_law_limits", "_law_k", "_law_at", "_law_weights", "_law_bound", "_law_j"] : List Str)
def B_16 : Sms := (.cons (.asg 1 (.op2 .add (.cst (.int 1)) (.op2 .mod (.call 1 (.cons (.var 0) (.cons (.cst (.int 0)) .nil))) (.cst (.int 3))))) (.cons (.asg 2 (.op2 .mod (.call 1 (.cons (.var 0) (.cons (.cst (.int 1)) .nil))) (.cst (.int 6)))) (.cons (.asg 3 (.op2 .ix (.lst (.cons (.cst (.int 3)) (.cons (.cst (.int 3)) (.cons (.cst (.int 9)) (.cons (.op2 .sub (.op2 .pow (.cst (.int 10)) (.cst (.int 12))) (.cst (.int 1))) .nil))))) (.op2 .mod (.call 1 (.cons (.var 0) (.cons (.cst (.int 2)) .nil))) (.cst (.int 4))))) (.cons (.ite (.op2 .eq (.op2 .mod (.call 1 (.cons (.var 0) (.cons (.cst (.int 3)) .nil))) (.cst (.int 6))) (.cst (.int 5))) (.cons (.asg 1 (.cst (.int 4))) (.cons (.asg 2 (.cst (.int 10))) (.cons (.asg 3 (.cst (.int 2))) .nil))) .nil) (.cons (.ite (.op2 .gt (.var 3) (.cst (.int 9))) (.cons (.asg 1 (.op2 .add (.cst (.int 1)) (.op2 .mod (.var 1) (.cst (.int 2))))) (.cons (.asg 2 (.op2 .mod (.var 2) (.cst (.int 4)))) .nil)) .nil) (.cons (.asgO 4 (.lst .nil)) (.cons (.forr (.nm 5) (.rng (.var 2)) (.cons (.asg 6 (.op2 .add (.cst (.int 8)) (.op2 .mul (.var 5) (.op2 .add (.var 1) (.cst (.int 1)))))) (.cons (.asg 7 (.comp (.nm 9) (.rng (.var 1)) .no (.call 0 (.cons (.call 1 (.cons (.var 0) (.cons (.op2 .add (.var 6) (.var 9)) .nil))) (.cons (.var 3) .nil))))) (.cons (.asg 8 (.call 0 (.cons (.call 1 (.cons (.var 0) (.cons (.op2 .add (.var 6) (.var 1)) .nil))) (.cons (.var 3) .nil)))) (.cons (.ite (.op2 .eq (.op2 .mod (.call 1 (.cons (.var 0) (.cons (.cst (.int 4)) .nil))) (.cst (.int 2))) (.cst (.int 1))) (.cons (.asg 8 (.op1 .abs (.var 8))) .nil) .nil) (.cons (.app 4 (.tup (.cons (.var 7) (.cons (.var 8) .nil)))) .nil)))))) (.cons (.frz 4) (.cons (.ret (.tup (.cons (.var 1) (.cons (.var 4) .nil)))) .nil)))))))))
/- 17: _law_copied -/
def N_17 : List Str := (["_law_limits", "_law_limit"] : List Str)
def B_17 : Sms := (.cons (.ret (.comp (.nm 1) (.seq (.var 0)) .no (.tup (.cons (.op1 .lstO (.op2 .ix (.var 1) (.cst (.int 0)))) (.cons (.op2 .ix (.var 1) (.cst (.int 1))) .nil))))) .nil)
/- 18: told -/
def N_18 : List Str := (["kinds", "limits", "limit"] : List Str)
def B_18 : Sms := (.cons (.ret (.tup (.cons (.var 0) (.cons (.op1 .tupO (.comp (.nm 2) (.seq (.var 1)) .no (.tup (.cons (.op1 .tupO (.op2 .ix (.var 2) (.cst (.int 0)))) (.cons (.op2 .ix (.var 2) (.cst (.int 1))) .nil))))) .nil)))) .nil)
/- 19: is_whole -/
def N_19 : List Str := (["thing"] : List Str)
def B_19 : Sms := (.cons (.ret (.and (.op1 .isInt (.var 0)) (.one (.not (.op1 .isBool (.var 0)))))) .nil)
/- 20: is_small -/
def N_20 : List Str := (["number"] : List Str)
def B_20 : Sms := (.cons (.ret (.and (.op2 .lt (.op1 .neg (.glb 2)) (.var 0)) (.one (.op2 .lt (.var 0) (.glb 2))))) .nil)
/- 21: is_row -/
def N_21 : List Str := (["size", "thing", "number"] : List Str)
def B_21 : Sms := (.cons (.ite (.or (.not (.op1 .isLst (.var 1))) (.one (.op2 .ne (.op1 .len (.var 1)) (.var 0)))) (.cons (.ret (.cst (.bl false))) .nil) .nil) (.cons (.forr (.nm 2) (.seq (.var 1)) (.cons (.ite (.not (.call 19 (.cons (.var 2) .nil))) (.cons (.ret (.cst (.bl false))) .nil) .nil) .nil)) (.cons (.ret (.cst (.bl true))) .nil)))
/- 22: is_limit -/
def N_22 : List Str := (["kinds", "thing", "number"] : List Str)
def B_22 : Sms := (.cons (.ite (.or (.not (.op1 .isTup (.var 1))) (.one (.op2 .ne (.op1 .len (.var 1)) (.cst (.int 2))))) (.cons (.ret (.cst (.bl false))) .nil) .nil) (.cons (.ite (.or (.not (.call 21 (.cons (.var 0) (.cons (.op2 .ix (.var 1) (.cst (.int 0))) .nil)))) (.one (.not (.call 19 (.cons (.op2 .ix (.var 1) (.cst (.int 1))) .nil))))) (.cons (.ret (.cst (.bl false))) .nil) .nil) (.cons (.forr (.nm 2) (.seq (.op2 .ix (.var 1) (.cst (.int 0)))) (.cons (.ite (.not (.call 20 (.cons (.var 2) .nil))) (.cons (.ret (.cst (.bl false))) .nil) .nil) .nil)) (.cons (.ret (.call 20 (.cons (.op2 .ix (.var 1) (.cst (.int 1))) .nil))) .nil))))
/- 23: desk_of -/
def N_23 : List Str := (["kinds", "limits", "limit"] : List Str)
def B_23 : Sms := (.cons (.ite (.or (.not (.call 19 (.cons (.var 0) .nil))) (.or (.op2 .lt (.var 0) (.cst (.int 1))) (.one (.op2 .gt (.var 0) (.glb 0))))) (.cons (.rais 1) .nil) .nil) (.cons (.ite (.or (.not (.op1 .isLst (.var 1))) (.one (.op2 .gt (.op1 .len (.var 1)) (.glb 1)))) (.cons (.rais 1) .nil) .nil) (.cons (.forr (.nm 2) (.seq (.var 1)) (.cons (.ite (.not (.call 22 (.cons (.var 0) (.cons (.var 2) .nil)))) (.cons (.rais 1) .nil) .nil) .nil)) (.cons (.ret (.call 18 (.cons (.var 0) (.cons (.var 1) .nil)))) .nil))))
/- 24: _law_frac -/
def N_24 : List Str := (["_law_upper", "_law_lower", "_law_same"] : List Str)
def B_24 : Sms := (.cons (.asg 2 (.call 6 (.cons (.var 0) (.cons (.var 1) .nil)))) (.cons (.ite (.op2 .lt (.var 1) (.cst (.int 0))) (.cons (.asg 2 (.op1 .neg (.var 2))) .nil) .nil) (.cons (.ret (.tup (.cons (.op2 .fdiv (.var 0) (.var 2)) (.cons (.op2 .fdiv (.var 1) (.var 2)) .nil)))) .nil)))
/- 25: _law_point -/
def N_25 : List Str := (["_law_script", "_law_kinds", "_law_made", "_law_k", "_law_lower"] : List Str)
def B_25 : Sms := (.cons (.asgO 2 (.lst .nil)) (.cons (.forr (.nm 3) (.rng (.var 1)) (.cons (.asg 4 (.op2 .add (.cst (.int 1)) (.op2 .mod (.call 1 (.cons (.var 0) (.cons (.op2 .add (.cst (.int 47)) (.var 3)) .nil))) (.cst (.int 5))))) (.cons (.app 2 (.call 24 (.cons (.call 0 (.cons (.call 1 (.cons (.var 0) (.cons (.op2 .add (.cst (.int 43)) (.var 3)) .nil))) (.cons (.cst (.int 12)) .nil))) (.cons (.var 4) .nil)))) .nil))) (.cons (.frz 2) (.cons (.ret (.var 2)) .nil))))
/- 26: _law_add -/
def N_26 : List Str := (["_law_a", "_law_b", "_law_many"] : List Str)
def B_26 : Sms := (.cons (.ret (.call 24 (.cons (.op2 .add (.op2 .mul (.op2 .mul (.op2 .ix (.var 0) (.cst (.int 0))) (.op2 .ix (.var 1) (.cst (.int 1)))) (.op2 .ix (.var 2) (.cst (.int 1)))) (.op2 .mul (.op2 .mul (.op2 .ix (.var 2) (.cst (.int 0))) (.op2 .ix (.var 1) (.cst (.int 0)))) (.op2 .ix (.var 0) (.cst (.int 1))))) (.cons (.op2 .mul (.op2 .mul (.op2 .ix (.var 0) (.cst (.int 1))) (.op2 .ix (.var 1) (.cst (.int 1)))) (.op2 .ix (.var 2) (.cst (.int 1)))) .nil)))) .nil)
/- 27: _law_weigh -/
def N_27 : List Str := (["_law_weights", "_law_point_here", "_law_made", "_law_k"] : List Str)
def B_27 : Sms := (.cons (.asg 2 (.tup (.cons (.cst (.int 0)) (.cons (.cst (.int 1)) .nil)))) (.cons (.forr (.nm 3) (.rng (.op1 .len (.var 1))) (.cons (.asg 2 (.call 26 (.cons (.var 2) (.cons (.op2 .ix (.var 1) (.var 3)) (.cons (.tup (.cons (.op2 .ix (.var 0) (.var 3)) (.cons (.cst (.int 1)) .nil))) .nil))))) .nil)) (.cons (.ret (.var 2)) .nil)))
/- 28: weight -/
def N_28 : List Str := (["weights", "point", "made", "number", "amount"] : List Str)
def B_28 : Sms := (.cons (.asg 2 (.glb 3)) (.cons (.forr (.pr 3 4) (.zip (.var 0) (.var 1)) (.cons (.asg 2 (.call 10 (.cons (.var 2) (.cons (.call 13 (.cons (.tup (.cons (.var 3) (.cons (.cst (.int 1)) .nil))) (.cons (.var 4) .nil))) .nil)))) .nil)) (.cons (.ret (.var 2)) .nil)))
/- 29: _law_below -/
def N_29 : List Str := (["_law_a", "_law_b"] : List Str)
def B_29 : Sms := (.cons (.ret (.op2 .lt (.op2 .mul (.op2 .ix (.var 0) (.cst (.int 0))) (.op2 .ix (.var 1) (.cst (.int 1)))) (.op2 .mul (.op2 .ix (.var 1) (.cst (.int 0))) (.op2 .ix (.var 0) (.cst (.int 1)))))) .nil)
/- 30: is_fraction -/
def N_30 : List Str := (["thing"] : List Str)
def B_30 : Sms := (.cons (.ite (.or (.not (.op1 .isTup (.var 0))) (.one (.op2 .ne (.op1 .len (.var 0)) (.cst (.int 2))))) (.cons (.ret (.cst (.bl false))) .nil) .nil) (.cons (.ite (.or (.not (.call 19 (.cons (.op2 .ix (.var 0) (.cst (.int 0))) .nil))) (.or (.not (.call 19 (.cons (.op2 .ix (.var 0) (.cst (.int 1))) .nil))) (.one (.op2 .lt (.op2 .ix (.var 0) (.cst (.int 1))) (.cst (.int 1)))))) (.cons (.ret (.cst (.bl false))) .nil) .nil) (.cons (.ret (.op2 .eq (.call 3 (.cons (.op2 .ix (.var 0) (.cst (.int 0))) (.cons (.op2 .ix (.var 0) (.cst (.int 1))) .nil))) (.cst (.int 1)))) .nil)))
/- 31: checked_point -/
def N_31 : List Str := (["kinds", "point", "amount"] : List Str)
def B_31 : Sms := (.cons (.ite (.or (.not (.op1 .isLst (.var 1))) (.one (.op2 .ne (.op1 .len (.var 1)) (.var 0)))) (.cons (.rais 2) .nil) .nil) (.cons (.forr (.nm 2) (.seq (.var 1)) (.cons (.ite (.not (.call 30 (.cons (.var 2) .nil))) (.cons (.rais 2) .nil) .nil) .nil)) (.cons (.ret (.var 1)) .nil)))
/- 32: broken -/
def N_32 : List Str := (["desk", "point", "made", "k"] : List Str)
def B_32 : Sms := (.cons (.expr (.call 31 (.cons (.op2 .ix (.var 0) (.cst (.int 0))) (.cons (.var 1) .nil)))) (.cons (.asgO 2 (.lst .nil)) (.cons (.forr (.nm 3) (.rng (.op1 .len (.op2 .ix (.var 0) (.cst (.int 1))))) (.cons (.ite (.call 5 (.cons (.tup (.cons (.op2 .ix (.op2 .ix (.op2 .ix (.var 0) (.cst (.int 1))) (.var 3)) (.cst (.int 1))) (.cons (.cst (.int 1)) .nil))) (.cons (.call 28 (.cons (.op2 .ix (.op2 .ix (.op2 .ix (.var 0) (.cst (.int 1))) (.var 3)) (.cst (.int 0))) (.cons (.var 1) .nil))) .nil))) (.cons (.app 2 (.var 3)) .nil) .nil) .nil)) (.cons (.frz 2) (.cons (.ret (.var 2)) .nil)))))
/- 33: just -/
def N_33 : List Str := (["desk", "point", "made", "k"] : List Str)
def B_33 : Sms := (.cons (.expr (.call 31 (.cons (.op2 .ix (.var 0) (.cst (.int 0))) (.cons (.var 1) .nil)))) (.cons (.asgO 2 (.lst .nil)) (.cons (.forr (.nm 3) (.rng (.op1 .len (.op2 .ix (.var 0) (.cst (.int 1))))) (.cons (.ite (.op2 .eq (.call 28 (.cons (.op2 .ix (.op2 .ix (.op2 .ix (.var 0) (.cst (.int 1))) (.var 3)) (.cst (.int 0))) (.cons (.var 1) .nil))) (.tup (.cons (.op2 .ix (.op2 .ix (.op2 .ix (.var 0) (.cst (.int 1))) (.var 3)) (.cst (.int 1))) (.cons (.cst (.int 1)) .nil)))) (.cons (.app 2 (.var 3)) .nil) .nil) .nil)) (.cons (.frz 2) (.cons (.ret (.var 2)) .nil)))))
/- 39: lowest -/
def N_39 : List Str := (["rows", "found", "k", "least"] : List Str)
def B_39 : Sms := (.cons (.asg 1 (.op1 .neg (.cst (.int 1)))) (.cons (.forr (.nm 2) (.rng (.op1 .len (.var 0))) (.cons (.asg 3 (.glb 3)) (.cons (.ite (.op2 .ge (.var 1) (.cst (.int 0))) (.cons (.asg 3 (.op2 .ix (.op2 .ix (.var 0) (.var 1)) (.cst (.int 0)))) .nil) .nil) (.cons (.ite (.call 5 (.cons (.op2 .ix (.op2 .ix (.var 0) (.var 2)) (.cst (.int 0))) (.cons (.var 3) .nil))) (.cons (.asg 1 (.var 2)) .nil) .nil) .nil)))) (.cons (.ret (.var 1)) .nil)))
/- 40: slack -/
def N_40 : List Str := (["kinds", "place"] : List Str)
def B_40 : Sms := (.cons (.ret (.op2 .add (.op2 .add (.op2 .mul (.cst (.int 2)) (.var 0)) (.cst (.int 1))) (.var 1))) .nil)
/- 41: first_rows -/
def N_41 : List Str := (["desk", "made", "limit", "row", "number"] : List Str)
def B_41 : Sms := (.cons (.asgO 1 (.lst .nil)) (.cons (.forr (.nm 2) (.seq (.op2 .ix (.var 0) (.cst (.int 1)))) (.cons (.asgO 3 (.lst (.cons (.tup (.cons (.op2 .ix (.var 2) (.cst (.int 1))) (.cons (.cst (.int 1)) .nil))) .nil))) (.cons (.ext 3 (.comp (.nm 4) (.seq (.op2 .ix (.var 2) (.cst (.int 0)))) .no (.tup (.cons (.op1 .neg (.var 4)) (.cons (.cst (.int 1)) .nil))))) (.cons (.ext 3 (.comp (.nm 4) (.seq (.op2 .ix (.var 2) (.cst (.int 0)))) .no (.tup (.cons (.var 4) (.cons (.cst (.int 1)) .nil))))) (.cons (.frz 3) (.cons (.app 1 (.var 3)) .nil)))))) (.cons (.frz 1) (.cons (.ret (.var 1)) .nil))))
/- 42: first_board -/
def N_42 : List Str := (["desk", "heads", "tails", "k"] : List Str)
def B_42 : Sms := (.cons (.asgO 1 (.comp (.nm 3) (.rng (.op1 .len (.op2 .ix (.var 0) (.cst (.int 1))))) .no (.call 40 (.cons (.op2 .ix (.var 0) (.cst (.int 0))) (.cons (.var 3) .nil))))) (.cons (.asgO 2 (.comp (.nm 3) (.rng (.op2 .mul (.cst (.int 2)) (.op2 .ix (.var 0) (.cst (.int 0))))) .no (.op2 .add (.var 3) (.cst (.int 1))))) (.cons (.retB 1 2 (.call 41 (.cons (.var 0) .nil)) (.comp (.nm 3) (.rng (.op2 .add (.op2 .mul (.cst (.int 2)) (.op2 .ix (.var 0) (.cst (.int 0)))) (.cst (.int 1)))) .no (.glb 3))) .nil)))
/- 43: solved -/
def N_43 : List Str := (["row", "place", "at", "made", "number"] : List Str)
def B_43 : Sms := (.cons (.asg 2 (.op2 .ix (.var 0) (.op2 .add (.var 1) (.cst (.int 1))))) (.cons (.asgO 3 (.comp (.nm 4) (.seq (.var 0)) .no (.call 11 (.cons (.call 14 (.cons (.var 4) (.cons (.var 2) .nil))) .nil)))) (.cons (.seti 3 (.op2 .add (.var 1) (.cst (.int 1))) (.call 14 (.cons (.glb 4) (.cons (.var 2) .nil)))) (.cons (.frz 3) (.cons (.ret (.var 3)) .nil)))))
/- 44: put_in -/
def N_44 : List Str := (["row", "line", "place", "many", "made", "a", "b"] : List Str)
def B_44 : Sms := (.cons (.asg 3 (.op2 .ix (.var 0) (.op2 .add (.var 2) (.cst (.int 1))))) (.cons (.ite (.op2 .eq (.var 3) (.glb 3)) (.cons (.ret (.op1 .lstO (.var 0))) .nil) .nil) (.cons (.asgO 4 (.comp (.pr 5 6) (.zip (.var 0) (.var 1)) .no (.call 10 (.cons (.var 5) (.cons (.call 13 (.cons (.var 3) (.cons (.var 6) .nil))) .nil))))) (.cons (.seti 4 (.op2 .add (.var 2) (.cst (.int 1))) (.call 13 (.cons (.var 3) (.cons (.op2 .ix (.var 1) (.op2 .add (.var 2) (.cst (.int 1)))) .nil)))) (.cons (.frz 4) (.cons (.ret (.var 4)) .nil))))))
/- 45: swap -/
def N_45 : List Str := (["self", "row", "place", "line", "kept", "one"] : List Str)
def B_45 : Sms := (.cons (.asg 3 (.call 43 (.cons (.fix .rows 0 (.var 1)) (.cons (.var 2) .nil)))) (.cons (.fset .rows 0 (.compR 0 5 (.call 44 (.cons (.var 5) (.cons (.var 3) (.cons (.var 2) .nil)))))) (.cons (.fsetix .rows 0 (.var 1) (.var 3)) (.cons (.fset .goal 0 (.call 44 (.cons (.fgoal 0) (.cons (.var 3) (.cons (.var 2) .nil))))) (.cons (.asg 4 (.fix .heads 0 (.var 1))) (.cons (.fsetix .heads 0 (.var 1) (.fix .tails 0 (.var 2))) (.cons (.fsetix .tails 0 (.var 2) (.var 4)) .nil)))))))
/- 46: entering -/
def N_46 : List Str := (["board", "found", "k"] : List Str)
def B_46 : Sms := (.cons (.asg 1 (.op1 .neg (.cst (.int 1)))) (.cons (.forr (.nm 2) (.rng (.flen .tails 0)) (.cons (.ite (.and (.op2 .gt (.op2 .ix (.fix .goal 0 (.op2 .add (.var 2) (.cst (.int 1)))) (.cst (.int 0))) (.cst (.int 0))) (.one (.or (.op2 .lt (.var 1) (.cst (.int 0))) (.one (.op2 .lt (.fix .tails 0 (.var 2)) (.fix .tails 0 (.var 1))))))) (.cons (.asg 1 (.var 2)) .nil) .nil) .nil)) (.cons (.ret (.var 1)) .nil)))
/- 47: leaving -/
def N_47 : List Str := (["board", "place", "found", "least", "k", "room", "nearer"] : List Str)
def B_47 : Sms := (.cons (.asg 2 (.op1 .neg (.cst (.int 1)))) (.cons (.asg 3 (.glb 3)) (.cons (.forr (.nm 4) (.rng (.flen .heads 0)) (.cons (.ite (.op2 .lt (.op2 .ix (.op2 .ix (.fix .rows 0 (.var 4)) (.op2 .add (.var 1) (.cst (.int 1)))) (.cst (.int 0))) (.cst (.int 0))) (.cons (.asg 5 (.call 11 (.cons (.call 14 (.cons (.op2 .ix (.fix .rows 0 (.var 4)) (.cst (.int 0))) (.cons (.op2 .ix (.fix .rows 0 (.var 4)) (.op2 .add (.var 1) (.cst (.int 1)))) .nil))) .nil))) (.cons (.asg 6 (.or (.op2 .lt (.var 2) (.cst (.int 0))) (.one (.call 5 (.cons (.var 5) (.cons (.var 3) .nil)))))) (.cons (.ite (.and (.not (.var 6)) (.one (.op2 .eq (.var 5) (.var 3)))) (.cons (.asg 6 (.op2 .lt (.fix .heads 0 (.var 4)) (.fix .heads 0 (.var 2)))) .nil) .nil) (.cons (.ite (.var 6) (.cons (.asg 2 (.var 4)) (.cons (.asg 3 (.var 5)) .nil)) .nil) .nil)))) .nil) .nil)) (.cons (.ret (.var 2)) .nil))))
/- 48: climb -/
def N_48 : List Str := (["board", "place", "row"] : List Str)
def B_48 : Sms := (.cons (.asg 1 (.call 46 (.cons (.var 0) .nil))) (.cons (.whil (.op2 .ge (.var 1) (.cst (.int 0))) (.cons (.asg 2 (.call 47 (.cons (.var 0) (.cons (.var 1) .nil)))) (.cons (.ite (.op2 .lt (.var 2) (.cst (.int 0))) (.cons (.ret (.var 1)) .nil) .nil) (.cons (.meth 0 45 (.cons (.var 2) (.cons (.var 1) .nil))) (.cons (.asg 1 (.call 46 (.cons (.var 0) .nil))) .nil))))) (.cons (.ret (.op1 .neg (.cst (.int 1)))) .nil)))
/- 49: helped -/
def N_49 : List Str := (["desk", "first", "board", "end", "row"] : List Str)
def B_49 : Sms := (.cons (.asg 2 (.call 42 (.cons (.var 0) .nil))) (.cons (.fapp .tails 2 (.glb 5)) (.cons (.fset .rows 2 (.compR 2 4 (.op2 .cat (.var 4) (.lst (.cons (.glb 4) .nil))))) (.cons (.fset .goal 2 (.op2 .cat (.fgoal 2) (.lst (.cons (.call 11 (.cons (.glb 4) .nil)) .nil)))) (.cons (.meth 2 45 (.cons (.var 1) (.cons (.op2 .sub (.flen .tails 2) (.cst (.int 1))) .nil))) (.cons (.asg 3 (.call 48 (.cons (.var 2) .nil))) (.cons (.ret (.var 2)) .nil)))))))
/- 50: cut -/
def N_50 : List Str := (["row", "place"] : List Str)
def B_50 : Sms := (.cons (.ret (.op2 .cat (.sl (.var 0) .no (.so (.op2 .add (.var 1) (.cst (.int 1))))) (.sl (.var 0) (.so (.op2 .add (.var 1) (.cst (.int 2)))) .no))) .nil)
/- 51: lose -/
def N_51 : List Str := (["self", "place", "row"] : List Str)
def B_51 : Sms := (.cons (.fset .rows 0 (.compR 0 2 (.call 50 (.cons (.var 2) (.cons (.var 1) .nil))))) (.cons (.fset .goal 0 (.call 50 (.cons (.fgoal 0) (.cons (.var 1) .nil)))) (.cons (.fset .tails 0 (.op2 .cat (.fsl .tails 0 .no (.so (.var 1))) (.fsl .tails 0 (.so (.op2 .add (.var 1) (.cst (.int 1)))) .no))) .nil)))
/- 52: freed -/
def N_52 : List Str := (["board", "row", "place"] : List Str)
def B_52 : Sms := (.cons (.ite (.fin .heads 0 (.glb 5)) (.cons (.asg 1 (.fidx .heads 0 (.glb 5))) (.cons (.asg 2 (.cst (.int 0))) (.cons (.whil (.op2 .eq (.op2 .ix (.fix .rows 0 (.var 1)) (.op2 .add (.var 2) (.cst (.int 1)))) (.glb 3)) (.cons (.asg 2 (.op2 .add (.var 2) (.cst (.int 1)))) .nil)) (.cons (.meth 0 45 (.cons (.var 1) (.cons (.var 2) .nil))) .nil)))) .nil) (.cons (.meth 0 51 (.cons (.fidx .tails 0 (.glb 5)) .nil)) (.cons (.ret (.var 0)) .nil)))
/- 53: priced -/
def N_53 : List Str := (["board", "number"] : List Str)
def B_53 : Sms := (.cons (.ite (.fin .tails 0 (.var 1)) (.cons (.ret (.call 11 (.cons (.fix .goal 0 (.op2 .add (.fidx .tails 0 (.var 1)) (.cst (.int 1)))) .nil))) .nil) .nil) (.cons (.ret (.glb 3)) .nil))
/- 54: shares_on -/
def N_54 : List Str := (["desk", "board", "k"] : List Str)
def B_54 : Sms := (.cons (.ret (.comp (.nm 2) (.rng (.op1 .len (.op2 .ix (.var 0) (.cst (.int 1))))) .no (.call 53 (.cons (.var 1) (.cons (.call 40 (.cons (.op2 .ix (.var 0) (.cst (.int 0))) (.cons (.var 2) .nil))) .nil))))) .nil)
/- 55: opened -/
def N_55 : List Str := (["desk", "first", "board", "limit"] : List Str)
def B_55 : Sms := (.cons (.asg 1 (.call 39 (.cons (.comp (.nm 3) (.seq (.op2 .ix (.var 0) (.cst (.int 1)))) .no (.lst (.cons (.tup (.cons (.op2 .ix (.var 3) (.cst (.int 1))) (.cons (.cst (.int 1)) .nil))) .nil))) .nil))) (.cons (.ite (.op2 .lt (.var 1) (.cst (.int 0))) (.cons (.ret (.tup (.cons (.call 42 (.cons (.var 0) .nil)) (.cons (.cst .non) .nil)))) .nil) .nil) (.cons (.asg 2 (.call 49 (.cons (.var 0) (.cons (.var 1) .nil)))) (.cons (.ite (.op2 .ne (.fix .goal 2 (.cst (.int 0))) (.glb 3)) (.cons (.ret (.tup (.cons (.cst .non) (.cons (.call 54 (.cons (.var 0) (.cons (.var 2) .nil))) .nil)))) .nil) .nil) (.cons (.ret (.tup (.cons (.call 52 (.cons (.var 2) .nil)) (.cons (.cst .non) .nil)))) .nil)))))
/- 56: now -/
def N_56 : List Str := (["board", "number"] : List Str)
def B_56 : Sms := (.cons (.ite (.fin .heads 0 (.var 1)) (.cons (.ret (.op2 .ix (.fix .rows 0 (.fidx .heads 0 (.var 1))) (.cst (.int 0)))) .nil) .nil) (.cons (.ret (.glb 3)) .nil))
/- 57: point_on -/
def N_57 : List Str := (["desk", "board", "kinds", "k"] : List Str)
def B_57 : Sms := (.cons (.asg 2 (.op2 .ix (.var 0) (.cst (.int 0)))) (.cons (.ret (.comp (.nm 3) (.rng (.var 2)) .no (.call 12 (.cons (.call 56 (.cons (.var 1) (.cons (.op2 .add (.var 3) (.cst (.int 1))) .nil))) (.cons (.call 56 (.cons (.var 1) (.cons (.op2 .add (.op2 .add (.var 2) (.var 3)) (.cst (.int 1))) .nil))) .nil))))) .nil))
/- 58: judged -/
def N_58 : List Str := (["desk", "found"] : List Str)
def B_58 : Sms := (.cons (.asg 1 (.call 55 (.cons (.var 0) .nil))) (.cons (.ite (.op1 .isN (.op2 .ix (.var 1) (.cst (.int 0)))) (.cons (.ret (.tup (.cons (.cst (.str "clash")) (.cons (.op2 .ix (.var 1) (.cst (.int 1))) .nil)))) .nil) .nil) (.cons (.ret (.tup (.cons (.cst (.str "point")) (.cons (.call 57 (.cons (.var 0) (.cons (.op2 .ix (.var 1) (.cst (.int 0))) .nil))) .nil)))) .nil)))
/- 59: _law_taken -/
def N_59 : List Str := (["_law_limits", "_law_shares", "_law_kinds", "_law_weights", "_law_bound", "_law_j", "_law_k"] : List Str)
def B_59 : Sms := (.cons (.asgO 3 (.comp (.nm 6) (.rng (.var 2)) .no (.tup (.cons (.cst (.int 0)) (.cons (.cst (.int 1)) .nil))))) (.cons (.asg 4 (.tup (.cons (.cst (.int 0)) (.cons (.cst (.int 1)) .nil)))) (.cons (.forr (.nm 5) (.rng (.op1 .len (.var 0))) (.cons (.forr (.nm 6) (.rng (.var 2)) (.cons (.seti 3 (.var 6) (.call 26 (.cons (.oix 3 (.var 6)) (.cons (.op2 .ix (.var 1) (.var 5)) (.cons (.tup (.cons (.op2 .ix (.op2 .ix (.op2 .ix (.var 0) (.var 5)) (.cst (.int 0))) (.var 6)) (.cons (.cst (.int 1)) .nil))) .nil))))) .nil)) (.cons (.asg 4 (.call 26 (.cons (.var 4) (.cons (.op2 .ix (.var 1) (.var 5)) (.cons (.tup (.cons (.op2 .ix (.op2 .ix (.var 0) (.var 5)) (.cst (.int 1))) (.cons (.cst (.int 1)) .nil))) .nil))))) .nil))) (.cons (.frz 3) (.cons (.ret (.tup (.cons (.var 3) (.cons (.var 4) .nil)))) .nil)))))
/- 60: _law_is_point -/
def N_60 : List Str := (["_law_found", "_law_kinds", "_law_amount"] : List Str)
def B_60 : Sms := (.cons (.ite (.or (.not (.op1 .isLst (.var 0))) (.one (.op2 .ne (.op1 .len (.var 0)) (.var 1)))) (.cons (.ret (.cst (.bl false))) .nil) .nil) (.cons (.forr (.nm 2) (.seq (.var 0)) (.cons (.ite (.not (.call 8 (.cons (.var 2) .nil))) (.cons (.ret (.cst (.bl false))) .nil) .nil) .nil)) (.cons (.ret (.cst (.bl true))) .nil)))
/- 61: _law_are_shares -/
def N_61 : List Str := (["_law_found", "_law_many", "_law_share"] : List Str)
def B_61 : Sms := (.cons (.ite (.not (.call 60 (.cons (.var 0) (.cons (.var 1) .nil)))) (.cons (.ret (.cst (.bl false))) .nil) .nil) (.cons (.forr (.nm 2) (.seq (.var 0)) (.cons (.ite (.op2 .lt (.op2 .ix (.var 2) (.cst (.int 0))) (.cst (.int 0))) (.cons (.ret (.cst (.bl false))) .nil) .nil) .nil)) (.cons (.ret (.cst (.bl true))) .nil)))
/- 62: _law_clashes -/
def N_62 : List Str := (["_law_limits", "_law_shares", "_law_kinds", "_law_both", "_law_k"] : List Str)
def B_62 : Sms := (.cons (.ite (.not (.call 61 (.cons (.var 1) (.cons (.op1 .len (.var 0)) .nil)))) (.cons (.ret (.cst (.bl false))) .nil) .nil) (.cons (.asg 3 (.call 59 (.cons (.var 0) (.cons (.var 1) (.cons (.var 2) .nil))))) (.cons (.ret (.and (.op2 .eq (.op2 .ix (.var 3) (.cst (.int 0))) (.comp (.nm 4) (.rng (.var 2)) .no (.tup (.cons (.cst (.int 0)) (.cons (.cst (.int 1)) .nil))))) (.one (.op2 .lt (.op2 .ix (.op2 .ix (.var 3) (.cst (.int 1))) (.cst (.int 0))) (.cst (.int 0)))))) .nil)))
/- 63: _law_weigh -/
def N_63 : List Str := (["_law_weights", "_law_point", "_law_made", "_law_k"] : List Str)
def B_63 : Sms := (.cons (.asg 2 (.tup (.cons (.cst (.int 0)) (.cons (.cst (.int 1)) .nil)))) (.cons (.forr (.nm 3) (.rng (.op1 .len (.var 1))) (.cons (.asg 2 (.call 26 (.cons (.var 2) (.cons (.op2 .ix (.var 1) (.var 3)) (.cons (.tup (.cons (.op2 .ix (.var 0) (.var 3)) (.cons (.cst (.int 1)) .nil))) .nil))))) .nil)) (.cons (.ret (.var 2)) .nil)))
/- 64: _law_keeps -/
def N_64 : List Str := (["_law_limits", "_law_point", "_law_limit"] : List Str)
def B_64 : Sms := (.cons (.forr (.nm 2) (.seq (.var 0)) (.cons (.ite (.call 29 (.cons (.tup (.cons (.op2 .ix (.var 2) (.cst (.int 1))) (.cons (.cst (.int 1)) .nil))) (.cons (.call 63 (.cons (.op2 .ix (.var 2) (.cst (.int 0))) (.cons (.var 1) .nil))) .nil))) (.cons (.ret (.cst (.bl false))) .nil) .nil) .nil)) (.cons (.ret (.cst (.bl true))) .nil))
/- 66: _law_goal -/
def N_66 : List Str := (["_law_script", "_law_kinds", "_law_wide", "_law_k"] : List Str)
def B_66 : Sms := (.cons (.asg 2 (.op2 .ix (.lst (.cons (.cst (.int 1)) (.cons (.cst (.int 3)) (.cons (.cst (.int 9)) (.cons (.op2 .pow (.cst (.int 10)) (.cst (.int 11))) .nil))))) (.op2 .mod (.call 1 (.cons (.var 0) (.cons (.cst (.int 5)) .nil))) (.cst (.int 4))))) (.cons (.ret (.comp (.nm 3) (.rng (.var 1)) .no (.call 0 (.cons (.call 1 (.cons (.var 0) (.cons (.op2 .add (.cst (.int 52)) (.var 3)) .nil))) (.cons (.var 2) .nil))))) .nil))
/- 67: checked_goal -/
def N_67 : List Str := (["desk", "goal"] : List Str)
def B_67 : Sms := (.cons (.ite (.not (.call 21 (.cons (.op2 .ix (.var 0) (.cst (.int 0))) (.cons (.var 1) .nil)))) (.cons (.rais 3) .nil) .nil) (.cons (.ret (.var 1)) .nil))
/- 68: aimed -/
def N_68 : List Str := (["desk", "board", "goal", "size", "made", "k", "many", "row", "j", "a", "b"] : List Str)
def B_68 : Sms := (.cons (.asg 3 (.op2 .add (.flen .tails 1) (.cst (.int 1)))) (.cons (.asg 4 (.comp (.nm 5) (.rng (.var 3)) .no (.glb 3))) (.cons (.forr (.nm 5) (.rng (.op2 .mul (.cst (.int 2)) (.op2 .ix (.var 0) (.cst (.int 0))))) (.cons (.asg 6 (.tup (.cons (.op2 .ix (.var 2) (.op2 .mod (.var 5) (.op2 .ix (.var 0) (.cst (.int 0))))) (.cons (.cst (.int 1)) .nil)))) (.cons (.ite (.op2 .ge (.var 5) (.op2 .ix (.var 0) (.cst (.int 0)))) (.cons (.asg 6 (.call 11 (.cons (.var 6) .nil))) .nil) .nil) (.cons (.asgO 7 (.comp (.nm 8) (.rng (.var 3)) .no (.glb 3))) (.cons (.ite (.fin .heads 1 (.op2 .add (.var 5) (.cst (.int 1)))) (.cons (.asg 7 (.fix .rows 1 (.fidx .heads 1 (.op2 .add (.var 5) (.cst (.int 1)))))) .nil) (.cons (.seti 7 (.op2 .add (.fidx .tails 1 (.op2 .add (.var 5) (.cst (.int 1)))) (.cst (.int 1))) (.glb 4)) (.cons (.frz 7) .nil))) (.cons (.asg 4 (.comp (.pr 9 10) (.zip (.var 4) (.var 7)) .no (.call 10 (.cons (.var 9) (.cons (.call 13 (.cons (.var 6) (.cons (.var 10) .nil))) .nil))))) .nil)))))) (.cons (.fset .goal 1 (.var 4)) (.cons (.ret (.var 1)) .nil)))))
/- 69: grows -/
def N_69 : List Str := (["board", "place", "number"] : List Str)
def B_69 : Sms := (.cons (.ite (.op2 .eq (.var 2) (.fix .tails 0 (.var 1))) (.cons (.ret (.glb 4)) .nil) .nil) (.cons (.ite (.fin .heads 0 (.var 2)) (.cons (.ret (.op2 .ix (.fix .rows 0 (.fidx .heads 0 (.var 2))) (.op2 .add (.var 1) (.cst (.int 1))))) .nil) .nil) (.cons (.ret (.glb 3)) .nil)))
/- 70: way_on -/
def N_70 : List Str := (["desk", "board", "place", "kinds", "k"] : List Str)
def B_70 : Sms := (.cons (.asg 3 (.op2 .ix (.var 0) (.cst (.int 0)))) (.cons (.ret (.comp (.nm 4) (.rng (.var 3)) .no (.call 12 (.cons (.call 69 (.cons (.var 1) (.cons (.var 2) (.cons (.op2 .add (.var 4) (.cst (.int 1))) .nil)))) (.cons (.call 69 (.cons (.var 1) (.cons (.var 2) (.cons (.op2 .add (.op2 .add (.var 3) (.var 4)) (.cst (.int 1))) .nil)))) .nil))))) .nil))
/- 71: best -/
def N_71 : List Str := (["desk", "goal", "found", "board", "end", "point"] : List Str)
def B_71 : Sms := (.cons (.expr (.call 67 (.cons (.var 0) (.cons (.var 1) .nil)))) (.cons (.asg 2 (.call 55 (.cons (.var 0) .nil))) (.cons (.ite (.op1 .isN (.op2 .ix (.var 2) (.cst (.int 0)))) (.cons (.ret (.tup (.cons (.cst (.str "clash")) (.cons (.op2 .ix (.var 2) (.cst (.int 1))) .nil)))) .nil) .nil) (.cons (.asg 3 (.call 68 (.cons (.var 0) (.cons (.op2 .ix (.var 2) (.cst (.int 0))) (.cons (.var 1) .nil))))) (.cons (.asg 4 (.call 48 (.cons (.var 3) .nil))) (.cons (.asg 5 (.call 57 (.cons (.var 0) (.cons (.var 3) .nil)))) (.cons (.ite (.op2 .ge (.var 4) (.cst (.int 0))) (.cons (.ret (.tup (.cons (.cst (.str "endless")) (.cons (.var 5) (.cons (.call 70 (.cons (.var 0) (.cons (.var 3) (.cons (.var 4) .nil)))) .nil))))) .nil) .nil) (.cons (.ret (.tup (.cons (.cst (.str "best")) (.cons (.var 5) (.cons (.call 54 (.cons (.var 0) (.cons (.var 3) .nil))) .nil))))) .nil))))))))
/- 72: _law_is_best -/
def N_72 : List Str := (["_law_limits", "_law_goal_here", "_law_point", "_law_prices", "_law_both", "_law_number_here"] : List Str)
def B_72 : Sms := (.cons (.ite (.not (.call 61 (.cons (.var 3) (.cons (.op1 .len (.var 0)) .nil)))) (.cons (.ret (.cst (.bl false))) .nil) .nil) (.cons (.asg 4 (.call 59 (.cons (.var 0) (.cons (.var 3) (.cons (.op1 .len (.var 1)) .nil))))) (.cons (.ret (.and (.op2 .eq (.op2 .ix (.var 4) (.cst (.int 0))) (.comp (.nm 5) (.seq (.var 1)) .no (.tup (.cons (.var 5) (.cons (.cst (.int 1)) .nil))))) (.one (.op2 .eq (.op2 .ix (.var 4) (.cst (.int 1))) (.call 63 (.cons (.var 1) (.cons (.var 2) .nil))))))) .nil)))
/- 73: _law_is_endless -/
def N_73 : List Str := (["_law_limits", "_law_goal_here", "_law_way", "_law_limit"] : List Str)
def B_73 : Sms := (.cons (.ite (.not (.call 60 (.cons (.var 2) (.cons (.op1 .len (.var 1)) .nil)))) (.cons (.ret (.cst (.bl false))) .nil) .nil) (.cons (.forr (.nm 3) (.seq (.var 0)) (.cons (.ite (.op2 .gt (.op2 .ix (.call 63 (.cons (.op2 .ix (.var 3) (.cst (.int 0))) (.cons (.var 2) .nil))) (.cst (.int 0))) (.cst (.int 0))) (.cons (.ret (.cst (.bl false))) .nil) .nil) .nil)) (.cons (.ret (.op2 .gt (.op2 .ix (.call 63 (.cons (.var 1) (.cons (.var 2) .nil))) (.cst (.int 0))) (.cst (.int 0)))) .nil)))
/- 76: top -/
def N_76 : List Str := (["desk", "goal", "found"] : List Str)
def B_76 : Sms := (.cons (.asg 2 (.call 71 (.cons (.var 0) (.cons (.var 1) .nil)))) (.cons (.ite (.op2 .eq (.op2 .ix (.var 2) (.cst (.int 0))) (.cst (.str "clash"))) (.cons (.rais 5) .nil) .nil) (.cons (.ite (.op2 .eq (.op2 .ix (.var 2) (.cst (.int 0))) (.cst (.str "endless"))) (.cons (.ret (.cst .non)) .nil) .nil) (.cons (.ret (.call 28 (.cons (.var 1) (.cons (.op2 .ix (.var 2) (.cst (.int 1))) .nil)))) .nil))))
/- 77: checked_place -/
def N_77 : List Str := (["size", "place"] : List Str)
def B_77 : Sms := (.cons (.ite (.or (.not (.call 19 (.cons (.var 1) .nil))) (.or (.op2 .lt (.var 1) (.cst (.int 0))) (.one (.op2 .ge (.var 1) (.var 0))))) (.cons (.rais 4) .nil) .nil) (.cons (.ret (.var 1)) .nil))
/- 78: single -/
def N_78 : List Str := (["kinds", "kind", "number", "k"] : List Str)
def B_78 : Sms := (.cons (.ret (.comp (.nm 3) (.rng (.var 0)) .no (.op2 .mul (.var 2) (.op1 .intO (.op2 .eq (.var 3) (.var 1)))))) .nil)
/- 79: stretch -/
def N_79 : List Str := (["desk", "kind", "low"] : List Str)
def B_79 : Sms := (.cons (.expr (.call 77 (.cons (.op2 .ix (.var 0) (.cst (.int 0))) (.cons (.var 1) .nil)))) (.cons (.asg 2 (.call 76 (.cons (.var 0) (.cons (.call 78 (.cons (.op2 .ix (.var 0) (.cst (.int 0))) (.cons (.var 1) (.cons (.op1 .neg (.cst (.int 1))) .nil)))) .nil)))) (.cons (.ite (.op1 .notN (.var 2)) (.cons (.asg 2 (.call 11 (.cons (.var 2) .nil))) .nil) .nil) (.cons (.ret (.tup (.cons (.var 2) (.cons (.call 76 (.cons (.var 0) (.cons (.call 78 (.cons (.op2 .ix (.var 0) (.cst (.int 0))) (.cons (.var 1) (.cons (.cst (.int 1)) .nil)))) .nil))) .nil)))) .nil))))
/- 82: without -/
def N_82 : List Str := (["desk", "place"] : List Str)
def B_82 : Sms := (.cons (.ret (.tup (.cons (.op2 .ix (.var 0) (.cst (.int 0))) (.cons (.op2 .tcat (.sl (.op2 .ix (.var 0) (.cst (.int 1))) .no (.so (.var 1))) (.sl (.op2 .ix (.var 0) (.cst (.int 1))) (.so (.op2 .add (.var 1) (.cst (.int 1)))) .no)) .nil)))) .nil)
/- 83: with_nought -/
def N_83 : List Str := (["shares", "place"] : List Str)
def B_83 : Sms := (.cons (.ret (.op2 .cat (.op2 .cat (.sl (.var 0) .no (.so (.var 1))) (.lst (.cons (.glb 3) .nil))) (.sl (.var 0) (.so (.var 1)) .no))) .nil)
/- 84: moved -/
def N_84 : List Str := (["point", "way", "many", "a", "b"] : List Str)
def B_84 : Sms := (.cons (.ret (.comp (.pr 3 4) (.zip (.var 0) (.var 1)) .no (.call 10 (.cons (.var 3) (.cons (.call 13 (.cons (.var 2) (.cons (.var 4) .nil))) .nil))))) .nil)
/- 85: beyond -/
def N_85 : List Str := (["limit", "point", "way", "room"] : List Str)
def B_85 : Sms := (.cons (.asg 3 (.call 14 (.cons (.call 12 (.cons (.tup (.cons (.op2 .ix (.var 0) (.cst (.int 1))) (.cons (.cst (.int 1)) .nil))) (.cons (.call 28 (.cons (.op2 .ix (.var 0) (.cst (.int 0))) (.cons (.var 1) .nil))) .nil))) (.cons (.call 28 (.cons (.op2 .ix (.var 0) (.cst (.int 0))) (.cons (.var 2) .nil))) .nil)))) (.cons (.ite (.call 5 (.cons (.var 3) (.cons (.glb 3) .nil))) (.cons (.asg 3 (.glb 3)) .nil) .nil) (.cons (.ret (.call 84 (.cons (.var 1) (.cons (.var 2) (.cons (.call 10 (.cons (.var 3) (.cons (.glb 4) .nil))) .nil))))) .nil)))
/- 86: cover -/
def N_86 : List Str := (["desk", "place", "limit", "found"] : List Str)
def B_86 : Sms := (.cons (.expr (.call 77 (.cons (.op1 .len (.op2 .ix (.var 0) (.cst (.int 1)))) (.cons (.var 1) .nil)))) (.cons (.asg 2 (.op2 .ix (.op2 .ix (.var 0) (.cst (.int 1))) (.var 1))) (.cons (.asg 3 (.call 71 (.cons (.call 82 (.cons (.var 0) (.cons (.var 1) .nil))) (.cons (.op1 .lstO (.op2 .ix (.var 2) (.cst (.int 0)))) .nil)))) (.cons (.ite (.op2 .eq (.op2 .ix (.var 3) (.cst (.int 0))) (.cst (.str "clash"))) (.cons (.ret (.tup (.cons (.cst (.str "clash")) (.cons (.call 83 (.cons (.op2 .ix (.var 3) (.cst (.int 1))) (.cons (.var 1) .nil))) .nil)))) .nil) .nil) (.cons (.ite (.op2 .eq (.op2 .ix (.var 3) (.cst (.int 0))) (.cst (.str "endless"))) (.cons (.ret (.tup (.cons (.cst (.str "point")) (.cons (.call 85 (.cons (.var 2) (.cons (.op2 .ix (.var 3) (.cst (.int 1))) (.cons (.op2 .ix (.var 3) (.cst (.int 2))) .nil)))) .nil)))) .nil) .nil) (.cons (.ite (.call 5 (.cons (.tup (.cons (.op2 .ix (.var 2) (.cst (.int 1))) (.cons (.cst (.int 1)) .nil))) (.cons (.call 28 (.cons (.op2 .ix (.var 2) (.cst (.int 0))) (.cons (.op2 .ix (.var 3) (.cst (.int 1))) .nil))) .nil))) (.cons (.ret (.tup (.cons (.cst (.str "point")) (.cons (.op2 .ix (.var 3) (.cst (.int 1))) .nil)))) .nil) .nil) (.cons (.ret (.tup (.cons (.cst (.str "shares")) (.cons (.call 83 (.cons (.op2 .ix (.var 3) (.cst (.int 2))) (.cons (.var 1) .nil))) .nil)))) .nil)))))))
/- 87: needless -/
def N_87 : List Str := (["desk", "place"] : List Str)
def B_87 : Sms := (.cons (.ret (.op2 .ne (.op2 .ix (.call 86 (.cons (.var 0) (.cons (.var 1) .nil))) (.cst (.int 0))) (.cst (.str "point")))) .nil)
/- 92: _law_more -/
def N_92 : List Str := (["_law_script", "_law_drawn", "_law_limits", "_law_one", "_law_other", "_law_weights", "_law_further", "_law_number_here", "_law_k"] : List Str)
def B_92 : Sms := (.cons (.asgO 2 (.call 17 (.cons (.op2 .ix (.var 1) (.cst (.int 1))) .nil))) (.cons (.ite (.or (.onil 2 false) (.or (.op2 .eq (.oln 2) (.cst (.int 10))) (.one (.op2 .eq (.op2 .mod (.call 1 (.cons (.var 0) (.cons (.cst (.int 41)) .nil))) (.cst (.int 2))) (.cst (.int 0)))))) (.cons (.frz 2) (.cons (.ret (.var 2)) .nil)) .nil) (.cons (.asg 3 (.oix 2 (.op2 .mod (.call 1 (.cons (.var 0) (.cons (.cst (.int 5)) .nil))) (.oln 2)))) (.cons (.asg 4 (.oix 2 (.op2 .mod (.call 1 (.cons (.var 0) (.cons (.cst (.int 6)) .nil))) (.oln 2)))) (.cons (.asg 5 (.comp (.nm 8) (.rng (.op2 .ix (.var 1) (.cst (.int 0)))) .no (.op2 .add (.op2 .ix (.op2 .ix (.var 3) (.cst (.int 0))) (.var 8)) (.op2 .ix (.op2 .ix (.var 4) (.cst (.int 0))) (.var 8))))) (.cons (.asg 6 (.tup (.cons (.var 5) (.cons (.op2 .add (.op2 .add (.op2 .ix (.var 3) (.cst (.int 1))) (.op2 .ix (.var 4) (.cst (.int 1)))) (.op2 .mod (.call 1 (.cons (.var 0) (.cons (.cst (.int 7)) .nil))) (.cst (.int 4)))) .nil)))) (.cons (.ite (.op2 .eq (.op2 .mod (.call 1 (.cons (.var 0) (.cons (.cst (.int 7)) .nil))) (.cst (.int 5))) (.cst (.int 4))) (.cons (.asg 6 (.tup (.cons (.op1 .lstO (.op2 .ix (.var 3) (.cst (.int 0)))) (.cons (.op2 .ix (.var 3) (.cst (.int 1))) .nil)))) .nil) .nil) (.cons (.forr (.nm 7) (.seq (.op2 .cat (.op2 .ix (.var 6) (.cst (.int 0))) (.lst (.cons (.op2 .ix (.var 6) (.cst (.int 1))) .nil)))) (.cons (.ite (.op2 .ge (.op1 .abs (.var 7)) (.op2 .pow (.cst (.int 10)) (.cst (.int 12)))) (.cons (.frz 2) (.cons (.ret (.var 2)) .nil)) .nil) .nil)) (.cons (.app 2 (.var 6)) (.cons (.frz 2) (.cons (.ret (.var 2)) .nil)))))))))))
/- 93: lean -/
def N_93 : List Str := (["desk", "left", "place"] : List Str)
def B_93 : Sms := (.cons (.asg 1 (.var 0)) (.cons (.asg 2 (.cst (.int 0))) (.cons (.whil (.op2 .lt (.var 2) (.op1 .len (.op2 .ix (.var 1) (.cst (.int 1))))) (.cons (.ite (.call 87 (.cons (.var 1) (.cons (.var 2) .nil))) (.cons (.asg 1 (.call 82 (.cons (.var 1) (.cons (.var 2) .nil)))) .nil) (.cons (.asg 2 (.op2 .add (.var 2) (.cst (.int 1)))) .nil)) .nil)) (.cons (.ret (.var 1)) .nil))))
/- 94: _law_shown -/
def N_94 : List Str := (["_law_limits", "_law_place", "_law_kinds", "_law_answer"] : List Str)
def B_94 : Sms := (.cons (.ite (.or (.op2 .ne (.op2 .ix (.var 3) (.cst (.int 0))) (.cst (.str "point"))) (.one (.not (.call 60 (.cons (.op2 .ix (.var 3) (.cst (.int 1))) (.cons (.var 2) .nil)))))) (.cons (.ret (.cst (.bl false))) .nil) .nil) (.cons (.ite (.not (.call 64 (.cons (.op2 .cat (.sl (.var 0) .no (.so (.var 1))) (.sl (.var 0) (.so (.op2 .add (.var 1) (.cst (.int 1)))) .no)) (.cons (.op2 .ix (.var 3) (.cst (.int 1))) .nil)))) (.cons (.ret (.cst (.bl false))) .nil) .nil) (.cons (.ret (.not (.call 64 (.cons (.lst (.cons (.op2 .ix (.var 0) (.var 1)) .nil)) (.cons (.op2 .ix (.var 3) (.cst (.int 1))) .nil))))) .nil)))
/- 95: law -/
def N_95 : List Str := (["_law_script", "_law_drawn", "_law_kinds", "_law_limits", "_law_found", "_law_left", "_law_place", "_law_k"] : List Str)
def B_95 : Sms := (.cons (.asg 1 (.call 16 (.cons (.var 0) .nil))) (.cons (.asg 1 (.tup (.cons (.op2 .ix (.var 1) (.cst (.int 0))) (.cons (.sl (.op2 .ix (.var 1) (.cst (.int 1))) .no (.so (.cst (.int 6)))) .nil)))) (.cons (.asg 2 (.op2 .ix (.var 1) (.cst (.int 0)))) (.cons (.asg 3 (.call 92 (.cons (.var 0) (.cons (.var 1) .nil)))) (.cons (.asg 4 (.call 93 (.cons (.call 23 (.cons (.var 2) (.cons (.call 17 (.cons (.var 3) .nil)) .nil))) .nil))) (.cons (.asg 5 (.var 3)) (.cons (.asg 6 (.cst (.int 0))) (.cons (.whil (.op2 .lt (.var 6) (.op1 .len (.var 5))) (.cons (.ite (.call 87 (.cons (.call 23 (.cons (.var 2) (.cons (.call 17 (.cons (.var 5) .nil)) .nil))) (.cons (.var 6) .nil))) (.cons (.asg 5 (.op2 .cat (.sl (.var 5) .no (.so (.var 6))) (.sl (.var 5) (.so (.op2 .add (.var 6) (.cst (.int 1)))) .no))) .nil) (.cons (.asg 6 (.op2 .add (.var 6) (.cst (.int 1)))) .nil)) .nil)) (.cons (.ite (.op2 .ne (.var 4) (.call 23 (.cons (.var 2) (.cons (.call 17 (.cons (.var 5) .nil)) .nil)))) (.cons (.ret (.cst (.bl false))) .nil) .nil) (.cons (.forr (.nm 7) (.rng (.op1 .len (.var 5))) (.cons (.ite (.not (.call 94 (.cons (.var 5) (.cons (.var 7) (.cons (.var 2) (.cons (.call 86 (.cons (.var 4) (.cons (.var 7) .nil))) .nil)))))) (.cons (.ret (.cst (.bl false))) .nil) .nil) .nil)) (.cons (.ret (.cst (.bl true))) .nil)))))))))))

end LK
namespace LK
open PySem
local macro_rules | `(tactic| trivial) => `(tactic| simp only [wB, wS, wE, wEs, wO, wC, wSrc, e_neg, e_abs, e_lent, e_lenl, e_lens, e_lenS, e_tupt, e_tupl, e_lstt, e_lstl, e_inti, e_intb, e_str, e_isInt, e_isBool, e_isTup, e_isLst, e_isStr, e_isN, e_notN, e_add, e_sub, e_mul, e_fdiv, e_mod, e_pow, e_lt, e_le, e_gt, e_ge, e_eqi, e_nei, e_cat, e_tcat, e_ixl, e_ixs, e_ixt0, e_ixt1, e_ixt2, e_max, e_min, e_test, e_seql, e_seqt, e_seqs, e_rng, e_rng2, e_zipl, e_zipt, e_ziptt, e_sll, e_slt, e_sls, e_nm, e_pr, gt, st, ent, List.map, List.replicate, List.length, List.cons_append, List.nil_append, kOf, Nat.sub_self, Nat.add_one_sub_one, Nat.reduceAdd, Nat.reduceSub, reduceCtorEq, decide_eq_true_eq, Bool.not_eq_true', decide_eq_false_iff_not, if_true, if_false, Bool.false_eq_true, ite_true, ite_false])
/-! ### divisor -/
def sp_3 : FSp := fun ds b Q E => ∃ i j : Int, ds = [.int i, .int j] ∧ Q (.int (Int.gcd i j)) b
theorem len_3 (ds b Q E) (h : sp_3 ds b Q E) : ds.length = 2 := by
  obtain ⟨i, j, rfl, _⟩ := h
  rfl
theorem meets_3 {G : Gm} (r : G.fr 3 = false) : ∀ ds b Q E, sp_3 ds b Q E → wB G B_3 (kOf (G.fr 3) Q E) (ent N_3.length ds) b := by
  rintro ds b Q E ⟨i, j, rfl, hQ⟩
  unfold B_3 N_3
  trivial
  refine ⟨fun m δ b' => ∃ (x : Nat) (s : Sl), δ = [.vl (.int x), .vl (.int m), s] ∧ Nat.gcd x m = Int.gcd i j ∧ b' = b, ⟨_, _, _, rfl, rfl, rfl⟩, ?_⟩
  rintro y δ _ ⟨x, s, rfl, hg, rfl⟩
  trivial
  refine L2.ite2 (fun h => ?_) fun h => ?_
  · have hy : 0 < y := by omega
    refine ⟨h, x % y, Nat.mod_lt _ hy, y, .vl (.int ((x : Int).fmod y)), ?_, ?_, True.intro⟩
    · rw [fmod_pos (by omega)]
      rfl
    · rw [← hg, Nat.gcd_comm y, ← Nat.gcd_rec, Nat.gcd_comm]
  · have h0 : y = 0 := by omega
    subst h0
    left
    simpa [← hg] using hQ
/-! ### fractions -/
theorem fr_mk {u l : Int} (h : 0 < l) : fr (Rat.divInt u l) = .tup [.int (u.fdiv (Int.gcd u l)), .int (l.fdiv (Int.gcd u l))] := by
  have hg : 0 < Int.gcd u l := Int.gcd_pos_of_ne_zero_right _ (by omega)
  unfold fr
  rw [Rat.num_divInt, Rat.den_divInt, if_neg (by omega), fdiv_pos (by omega), fdiv_pos (by omega), Int.sign_eq_one_of_pos h, Int.one_mul, Int.gcd_comm l u]
  congr 4
  rw [Int.natCast_ediv]
  congr 1
  omega
def sp_4 : FSp := fun ds b Q E => ∃ u l : Int, ds = [.int u, .int l] ∧ l ≠ 0 ∧ l.natAbs < 2 ^ 8990 ∧ Q (fr (Rat.divInt u l)) b
theorem len_4 (ds b Q E) (h : sp_4 ds b Q E) : ds.length = 2 := by
  obtain ⟨i, j, rfl, _⟩ := h
  rfl
theorem gcd_small {u l : Int} (h : l ≠ 0) (hl : l.natAbs < 2 ^ 8990) : DivOk (Int.gcd u l) := by
  have h1 : Int.gcd u l ∣ l.natAbs := Nat.gcd_dvd_right _ _
  have h2 := Nat.le_of_dvd (by omega) h1
  have h3 : 0 < Int.gcd u l := Int.gcd_pos_of_ne_zero_right u h
  exact DivOk.of (a := 8990) (by omega) (by rw [Int.natAbs_natCast]; exact Nat.lt_of_le_of_lt h2 hl) (by decide)
theorem meets_4 {G : Gm} (h3 : G.sp 3 = sp_3) (r : G.fr 4 = false) : ∀ ds b Q E, sp_4 ds b Q E → wB G B_4 (kOf (G.fr 4) Q E) (ent N_4.length ds) b := by
  rintro ds b Q E ⟨u, l, rfl, h0, hl, hQ⟩
  unfold B_4 N_4
  trivial
  refine L2.ite2 (fun h => ?_) fun h => ?_
  · rw [h3]
    refine ⟨_, _, rfl, ?_⟩
    have hd := gcd_small (u := -u) (l := -l) (by omega) (by rw [Int.natAbs_neg]; exact hl)
    refine ⟨hd, hd, .inl ?_⟩
    rw [← fr_mk (by omega), Rat.neg_divInt_neg]
    exact hQ
  · rw [h3]
    refine ⟨_, _, rfl, ?_⟩
    have hd := gcd_small (u := u) h0 hl
    refine ⟨hd, hd, .inl ?_⟩
    rw [← fr_mk (by omega)]
    exact hQ
/-! ### the law's cells -/
def isScr (d : D) (ns : List Int) : Prop := d = .scr ns ∨ d = .lst (ns.map .int)
def sp_0 : FSp := fun ds b Q E => ∃ c w : Int, ds = [.int c, .int w] ∧ 0 ≤ w ∧ ∀ n : Int, -w ≤ n → n ≤ w → Q (.int n) b
theorem len_0 (ds b Q E) (h : sp_0 ds b Q E) : ds.length = 2 := by
  obtain ⟨i, j, rfl, _⟩ := h
  rfl
theorem meets_0 {G : Gm} (r : G.fr 0 = false) : ∀ ds b Q E, sp_0 ds b Q E → wB G B_0 (kOf (G.fr 0) Q E) (ent N_0.length ds) b := by
  rintro ds b Q E ⟨c, w, rfl, hw, hQ⟩
  unfold B_0 N_0
  trivial
  refine ⟨MulOk.l (by decide), by omega, ?_⟩
  have h1 : c.fmod (2 * w + 1) = c % (2 * w + 1) := fmod_pos (by omega)
  have h2 := Int.emod_nonneg c (show 2 * w + 1 ≠ 0 by omega)
  have h3 := Int.emod_lt_of_pos c (show 0 < 2 * w + 1 by omega)
  rw [h1]
  refine L2.ite2 (fun h => ⟨MulOk.l (by decide), .inl (hQ _ ?_ ?_)⟩) fun h => .inl (hQ _ ?_ ?_) <;> omega
def sp_1 : FSp := fun ds b Q E => ∃ (s : D) (ns : List Int) (k : Int), ds = [s, .int k] ∧ isScr s ns ∧ 0 ≤ k ∧ ∀ n : Int, Q (.int n) b
theorem len_1 (ds b Q E) (h : sp_1 ds b Q E) : ds.length = 2 := by
  obtain ⟨s, ns, j, rfl, _⟩ := h
  rfl
theorem atI_ex {α : Type} {xs : List α} {k : Int} (h0 : 0 ≤ k) (h : k < xs.length) : ∃ x, L2.atI xs k = some x := by
  have hk : k.toNat < xs.length := by omega
  refine ⟨xs[k.toNat], ?_⟩
  have := atI_nn (List.getElem?_eq_getElem hk)
  have e : ((k.toNat : Nat) : Int) = k := by omega
  rwa [e] at this
theorem meets_1 {G : Gm} (r : G.fr 1 = false) : ∀ ds b Q E, sp_1 ds b Q E → wB G B_1 (kOf (G.fr 1) Q E) (ent N_1.length ds) b := by
  rintro ds b Q E ⟨s, ns, k, rfl, hs, hk, hQ⟩
  unfold B_1 N_1
  rcases hs with rfl | rfl
  · trivial
    refine L2.ite2 (fun h => ?_) fun h => ?_
    · obtain ⟨x, hx⟩ := atI_ex hk h
      exact ⟨x, hx, .inl (hQ _)⟩
    · refine ⟨rfl, rfl, L2.ite2 (fun h0 => .inl (hQ _)) fun h0 => ?_⟩
      rw [eqD_scr_nil] at h0
      have hl : 0 < ns.length := List.length_pos_iff.mpr h0
      refine ⟨by omega, ?_⟩
      obtain ⟨x, hx⟩ := atI_ex (xs := ns) (k := k.fmod ns.length) (by rw [fmod_pos (by omega)]; exact Int.emod_nonneg _ (by omega)) (by rw [fmod_pos (by omega)]; exact Int.emod_lt_of_pos _ (by omega))
      exact ⟨x, hx, MulOk.r (by decide), .inl (hQ _)⟩
  · trivial
    refine L2.ite2 (fun h => ?_) fun h => ?_
    · obtain ⟨x, hx⟩ := atI_ex (xs := ns) hk (by simpa using h)
      exact ⟨_, at_map hx, .inl (hQ _)⟩
    · refine ⟨cmpOks_ints ns 19, rfl, L2.ite2 (fun h0 => .inl (hQ _)) fun h0 => ?_⟩
      rw [eqD_iff (.lst (ns.map .int)) (.lst []) (plDs_ints ns) rfl] at h0
      have h1 : ns ≠ [] := fun z => h0 (by rw [z]; rfl)
      have hl : 0 < ns.length := List.length_pos_iff.mpr h1
      have e : (((ns.map D.int).length : Nat) : Int) = ns.length := by rw [List.length_map]
      rw [e]
      refine ⟨by omega, ?_⟩
      obtain ⟨x, hx⟩ := atI_ex (xs := ns) (k := k.fmod ns.length) (by rw [fmod_pos (by omega)]; exact Int.emod_nonneg _ (by omega)) (by rw [fmod_pos (by omega)]; exact Int.emod_lt_of_pos _ (by omega))
      exact ⟨_, at_map hx, MulOk.r (by decide), .inl (hQ _)⟩
end LK

namespace LK
open PySem
local macro_rules | `(tactic| trivial) => `(tactic| simp only [wB, wS, wE, wEs, wO, wC, wSrc, e_neg, e_abs, e_lent, e_lenl, e_lens, e_lenS, e_tupt, e_tupl, e_lstt, e_lstl, e_inti, e_intb, e_str, e_isInt, e_isBool, e_isTup, e_isLst, e_isStr, e_isN, e_notN, e_add, e_sub, e_mul, e_fdiv, e_mod, e_pow, e_lt, e_le, e_gt, e_ge, e_eqi, e_nei, e_cat, e_tcat, e_ixl, e_ixs, e_ixt0, e_ixt1, e_ixt2, e_max, e_min, e_test, e_seql, e_seqt, e_seqs, e_rng, e_rng2, e_zipl, e_zipt, e_ziptt, e_sll, e_slt, e_sls, e_nm, e_pr, gt, st, ent, List.map, List.replicate, List.length, List.cons_append, List.nil_append, kOf, Nat.sub_self, Nat.add_one_sub_one, Nat.reduceAdd, Nat.reduceSub, reduceCtorEq, decide_eq_true_eq, Bool.not_eq_true', decide_eq_false_iff_not, if_true, if_false, Bool.false_eq_true, ite_true, ite_false])
/-! ### arithmetic of fractions -/
theorem Sz.num {n : Nat} {r : Rat} (h : Sz n r) : r.num.natAbs < 2 ^ n := h.1
theorem Sz.den {n : Nat} {r : Rat} (h : Sz n r) : ((r.den : Nat) : Int).natAbs < 2 ^ n := by rw [Int.natAbs_natCast]; exact h.2
theorem Sz.mono {n m : Nat} {r : Rat} (h : Sz n r) (hm : n ≤ m) : Sz m r := ⟨Nat.lt_of_lt_of_le h.1 (Nat.pow_le_pow_right (by decide) hm), Nat.lt_of_lt_of_le h.2 (Nat.pow_le_pow_right (by decide) hm)⟩
theorem Sz.neg {n : Nat} {r : Rat} (h : Sz n r) : Sz n (-r) := ⟨by rw [Rat.neg_num, Int.natAbs_neg]; exact h.1, h.2⟩
theorem den_ne (r : Rat) : ((r.den : Nat) : Int) ≠ 0 := by have := r.den_nz; omega
theorem add_divInt (a b : Rat) : Rat.divInt (a.num * b.den + b.num * a.den) (a.den * b.den) = a + b := by
  rw [Rat.add_def', ← Rat.divInt_ofNat, Int.natCast_mul]
theorem mul_divInt (a b : Rat) : Rat.divInt (a.num * b.num) (a.den * b.den) = a * b := by
  rw [Rat.mul_def', ← Rat.divInt_ofNat, Int.natCast_mul]
theorem div_divInt (a b : Rat) : Rat.divInt (a.num * b.den) (a.den * b.num) = a / b := by
  rw [Rat.div_def, Rat.inv_def]
  conv => rhs; rw [← Rat.num_divInt_den a]
  rw [Rat.divInt_mul_divInt]
theorem num_eq {n d : Int} (h : d ≠ 0) : (Rat.divInt n d).num * d = n * (Rat.divInt n d).den := by
  have := Rat.num_divInt_den (Rat.divInt n d)
  rwa [Rat.divInt_eq_divInt_iff (den_ne _) h] at this
def sp_5 : FSp := fun ds b Q E => ∃ x y : Rat, ds = [fr x, fr y] ∧ Sz 4000 x ∧ Sz 4000 y ∧ Q (.bl (decide (x < y))) b
theorem len_5 (ds b Q E) (h : sp_5 ds b Q E) : ds.length = 2 := by
  obtain ⟨i, j, rfl, _⟩ := h
  rfl
theorem meets_5 {G : Gm} (r : G.fr 5 = false) : ∀ ds b Q E, sp_5 ds b Q E → wB G B_5 (kOf (G.fr 5) Q E) (ent N_5.length ds) b := by
  rintro ds b Q E ⟨x, y, rfl, hx, hy, hQ⟩
  unfold B_5 N_5 fr
  trivial
  refine ⟨MulOk.of hx.num hy.den (by decide), MulOk.of hy.num hx.den (by decide), .inl ?_⟩
  have e : decide (x.num * ↑y.den < y.num * ↑x.den) = decide (x < y) := decide_eq_decide.mpr (Rat.lt_iff x y).symm
  rw [e]
  exact hQ
def sp_10 : FSp := fun ds b Q E => ∃ x y : Rat, ds = [fr x, fr y] ∧ Sz 4000 x ∧ Sz 4000 y ∧ Q (fr (x + y)) b
theorem len_10 (ds b Q E) (h : sp_10 ds b Q E) : ds.length = 2 := by
  obtain ⟨i, j, rfl, _⟩ := h
  rfl
theorem big8 {i j : Int} {a b : Nat} (hi : i.natAbs < 2 ^ a) (hj : j.natAbs < 2 ^ b) (h : a + b ≤ 8990) : (i * j).natAbs < 2 ^ 8990 := Nat.lt_of_lt_of_le (natAbs_mul_lt hi hj) (Nat.pow_le_pow_right (by decide) h)
theorem meets_10 {G : Gm} (h4 : G.sp 4 = sp_4) (r : G.fr 10 = false) : ∀ ds b Q E, sp_10 ds b Q E → wB G B_10 (kOf (G.fr 10) Q E) (ent N_10.length ds) b := by
  rintro ds b Q E ⟨x, y, rfl, hx, hy, hQ⟩
  unfold B_10 N_10 fr
  trivial
  rw [h4]
  refine ⟨MulOk.of hx.num hy.den (by decide), MulOk.of hy.num hx.den (by decide), MulOk.of hx.den hy.den (by decide), _, _, rfl, Int.mul_ne_zero (den_ne x) (den_ne y), big8 hx.den hy.den (by decide), .inl ?_⟩
  rw [add_divInt]
  exact hQ
def sp_11 : FSp := fun ds b Q E => ∃ x : Rat, ds = [fr x] ∧ Q (fr (-x)) b
theorem len_11 (ds b Q E) (h : sp_11 ds b Q E) : ds.length = 1 := by
  obtain ⟨i, rfl, _⟩ := h
  rfl
theorem meets_11 {G : Gm} (r : G.fr 11 = false) : ∀ ds b Q E, sp_11 ds b Q E → wB G B_11 (kOf (G.fr 11) Q E) (ent N_11.length ds) b := by
  rintro ds b Q E ⟨x, rfl, hQ⟩
  unfold B_11 N_11 fr
  trivial
  exact .inl hQ
def sp_12 : FSp := fun ds b Q E => ∃ x y : Rat, ds = [fr x, fr y] ∧ Sz 4000 x ∧ Sz 4000 y ∧ Q (fr (x - y)) b
theorem len_12 (ds b Q E) (h : sp_12 ds b Q E) : ds.length = 2 := by
  obtain ⟨i, j, rfl, _⟩ := h
  rfl
theorem meets_12 {G : Gm} (h10 : G.sp 10 = sp_10) (h11 : G.sp 11 = sp_11) (r : G.fr 12 = false) : ∀ ds b Q E, sp_12 ds b Q E → wB G B_12 (kOf (G.fr 12) Q E) (ent N_12.length ds) b := by
  rintro ds b Q E ⟨x, y, rfl, hx, hy, hQ⟩
  unfold B_12 N_12
  trivial
  rw [h10, h11]
  refine ⟨y, rfl, x, -y, rfl, hx, hy.neg, .inl ?_⟩
  rw [← Rat.sub_eq_add_neg]
  exact hQ
def sp_13 : FSp := fun ds b Q E => ∃ x y : Rat, ds = [fr x, fr y] ∧ Sz 4000 x ∧ Sz 4000 y ∧ Q (fr (x * y)) b
theorem len_13 (ds b Q E) (h : sp_13 ds b Q E) : ds.length = 2 := by
  obtain ⟨i, j, rfl, _⟩ := h
  rfl
theorem meets_13 {G : Gm} (h4 : G.sp 4 = sp_4) (r : G.fr 13 = false) : ∀ ds b Q E, sp_13 ds b Q E → wB G B_13 (kOf (G.fr 13) Q E) (ent N_13.length ds) b := by
  rintro ds b Q E ⟨x, y, rfl, hx, hy, hQ⟩
  unfold B_13 N_13 fr
  trivial
  rw [h4]
  refine ⟨MulOk.of hx.num hy.num (by decide), MulOk.of hx.den hy.den (by decide), _, _, rfl, Int.mul_ne_zero (den_ne x) (den_ne y), big8 hx.den hy.den (by decide), .inl ?_⟩
  rw [mul_divInt]
  exact hQ
def sp_14 : FSp := fun ds b Q E => ∃ x y : Rat, ds = [fr x, fr y] ∧ y ≠ 0 ∧ Sz 4000 x ∧ Sz 4000 y ∧ Q (fr (x / y)) b
theorem len_14 (ds b Q E) (h : sp_14 ds b Q E) : ds.length = 2 := by
  obtain ⟨i, j, rfl, _⟩ := h
  rfl
theorem num_ne {y : Rat} (h : y ≠ 0) : y.num ≠ 0 := fun z => h (Rat.num_eq_zero.mp z)
theorem meets_14 {G : Gm} (h4 : G.sp 4 = sp_4) (r : G.fr 14 = false) : ∀ ds b Q E, sp_14 ds b Q E → wB G B_14 (kOf (G.fr 14) Q E) (ent N_14.length ds) b := by
  rintro ds b Q E ⟨x, y, rfl, h0, hx, hy, hQ⟩
  unfold B_14 N_14 fr
  trivial
  rw [h4]
  refine ⟨MulOk.of hx.num hy.den (by decide), MulOk.of hx.den hy.num (by decide), _, _, rfl, Int.mul_ne_zero (den_ne x) (num_ne h0), big8 hx.den hy.num (by decide), .inl ?_⟩
  rw [div_divInt]
  exact hQ
end LK

namespace LK
open PySem
local macro_rules | `(tactic| trivial) => `(tactic| simp only [wB, wS, wE, wEs, wO, wC, wSrc, e_neg, e_abs, e_lent, e_lenl, e_lens, e_lenS, e_tupt, e_tupl, e_lstt, e_lstl, e_inti, e_intb, e_str, e_isInt, e_isBool, e_isTup, e_isLst, e_isStr, e_isN, e_notN, e_add, e_sub, e_mul, e_fdiv, e_mod, e_pow, e_lt, e_le, e_gt, e_ge, e_eqi, e_nei, e_cat, e_tcat, e_ixl, e_ixs, e_ixt0, e_ixt1, e_ixt2, e_max, e_min, e_test, e_seql, e_seqt, e_seqs, e_rng, e_rng2, e_zipl, e_zipt, e_ziptt, e_sll, e_slt, e_sls, e_nm, e_pr, gt, st, ent, List.map, List.replicate, List.length, List.cons_append, List.nil_append, kOf, Nat.sub_self, Nat.add_one_sub_one, Nat.reduceAdd, Nat.reduceSub, reduceCtorEq, decide_eq_true_eq, Bool.not_eq_true', decide_eq_false_iff_not, if_true, if_false, Bool.false_eq_true, ite_true, ite_false])
/-! ### k01 -/
def sp_6 : FSp := sp_3
theorem len_6 (ds b Q E) (h : sp_6 ds b Q E) : ds.length = 2 := len_3 ds b Q E h
theorem meets_6 {G : Gm} (r : G.fr 6 = false) : ∀ ds b Q E, sp_6 ds b Q E → wB G B_6 (kOf (G.fr 6) Q E) (ent N_6.length ds) b := by
  rintro ds b Q E ⟨i, j, rfl, hQ⟩
  unfold B_6 N_6
  trivial
  refine ⟨fun m δ b' => ∃ (x : Nat) (s : Sl), δ = [.vl (.int x), .vl (.int m), s] ∧ Nat.gcd x m = Int.gcd i j ∧ b' = b, ⟨_, _, _, rfl, rfl, rfl⟩, ?_⟩
  rintro y δ _ ⟨x, s, rfl, hg, rfl⟩
  trivial
  refine L2.ite2 (fun h => ?_) fun h => ?_
  · have hy : 0 < y := by omega
    refine ⟨h, x % y, Nat.mod_lt _ hy, y, .vl (.int ((x : Int).fmod y)), ?_, ?_, True.intro⟩
    · rw [fmod_pos (by omega)]
      rfl
    · rw [← hg, Nat.gcd_comm y, ← Nat.gcd_rec, Nat.gcd_comm]
  · have h0 : y = 0 := by omega
    subst h0
    left
    simpa [← hg] using hQ
/-- a whole number, no truth -/
def isWh (d : D) : Bool := isIntD d && !isBoolD d
def sp_7 : FSp := fun ds b Q E => ∃ d, ds = [d] ∧ isBrdD d = false ∧ Q (.bl (isWh d)) b
theorem len_7 (ds b Q E) (h : sp_7 ds b Q E) : ds.length = 1 := by
  obtain ⟨i, rfl, _⟩ := h
  rfl
theorem meets_7 {G : Gm} (r : G.fr 7 = false) : ∀ ds b Q E, sp_7 ds b Q E → wB G B_7 (kOf (G.fr 7) Q E) (ent N_7.length ds) b := by
  rintro ds b Q E ⟨d, rfl, hd, hQ⟩
  unfold B_7 N_7
  trivial
  refine ⟨hd, iteb (fun h => ⟨hd, .inl ?_⟩) fun h => .inl ?_⟩
  · simpa [isWh, h] using hQ
  · simpa [isWh, h] using hQ
def isFrac : D → Bool
  | .tup [.int u, .int l] => decide (1 ≤ l) && decide (Int.gcd u l = 1)
  | _ => false
def noB1 : D → Bool
  | .tup ds => ds.all fun d => !isBrdD d
  | d => !isBrdD d
theorem isFrac_fr (r : Rat) : isFrac (fr r) = true := by
  have h1 := r.den_nz
  have h2 := r.reduced
  simp only [fr, isFrac, Bool.and_eq_true, decide_eq_true_eq]
  refine ⟨by omega, ?_⟩
  unfold Int.gcd
  rw [Int.natAbs_natCast]
  exact h2
theorem isWh_int {d : D} (h : isWh d = true) : ∃ i, d = .int i := by
  cases d <;> first | exact ⟨_, rfl⟩ | cases h
def sp_8 : FSp := fun ds b Q E => ∃ d, ds = [d] ∧ noB1 d = true ∧ Q (.bl (isFrac d)) b
theorem len_8 (ds b Q E) (h : sp_8 ds b Q E) : ds.length = 1 := by
  obtain ⟨i, rfl, _⟩ := h
  rfl
theorem meets_8 {G : Gm} (h6 : G.sp 6 = sp_6) (h7 : G.sp 7 = sp_7) (r : G.fr 8 = false) : ∀ ds b Q E, sp_8 ds b Q E → wB G B_8 (kOf (G.fr 8) Q E) (ent N_8.length ds) b := by
  rintro ds b Q E ⟨d, rfl, hd, hQ⟩
  have hb : isBrdD d = false := by cases d <;> first | rfl | simpa [noB1] using hd
  unfold B_8 N_8
  trivial
  refine ⟨hb, L2.ite2 (fun h => ?_) fun h => ?_⟩
  · have e : isFrac d = false := by cases d <;> first | rfl | simp [isTupD] at h
    exact .inl (by rw [e] at hQ; exact hQ)
  · have ht : ∃ es, d = .tup es := by cases d <;> first | exact ⟨_, rfl⟩ | simp [isTupD] at h
    obtain ⟨es, rfl⟩ := ht
    trivial
    refine L2.ite2 (fun h2 => ?_) fun h2 => ?_
    · have e : isFrac (.tup es) = false := by
        match es, h2 with
        | [], _ => rfl
        | [_], _ => simp [isFrac]
        | [_, _], h2 => exact absurd rfl h2
        | _ :: _ :: _ :: _, _ => simp [isFrac]
      exact .inl (by rw [e] at hQ; exact hQ)
    · have hl : es.length = 2 := by omega
      match es, hl, hd, hQ with
      | [x, y], _, hd, hQ =>
        have hx : isBrdD x = false := by simp [noB1] at hd; exact hd.1
        have hy : isBrdD y = false := by simp [noB1] at hd; exact hd.2
        trivial
        rw [h7, h6]
        refine ⟨x, rfl, hx, ?_⟩
        trivial
        refine L2.ite2 (fun q => ?_) fun q => ?_
        · have e : isFrac (.tup [x, y]) = false := by cases x <;> first | rfl | exact absurd q (by simp [isWh, isIntD, isBoolD]) | simp [isFrac]
          exact .inl (by rw [e] at hQ; exact hQ)
        · obtain ⟨u, rfl⟩ := isWh_int (by simpa using q)
          refine ⟨y, rfl, hy, ?_⟩
          trivial
          refine L2.ite2 (fun q => ?_) fun q => ?_
          · have e : isFrac (.tup [.int u, y]) = false := by cases y <;> first | rfl | exact absurd q (by simp [isWh, isIntD, isBoolD]) | simp [isFrac]
            exact .inl (by rw [e] at hQ; exact hQ)
          · obtain ⟨l, rfl⟩ := isWh_int (by simpa using q)
            trivial
            refine L2.ite2 (fun q => ?_) fun q => ?_
            · have e : isFrac (.tup [.int u, .int l]) = false := by
                simp [isFrac]
                omega
              exact .inl (by rw [e] at hQ; exact hQ)
            · refine ⟨u, l, rfl, ?_⟩
              trivial
              left
              have e : isFrac (.tup [.int u, .int l]) = decide (((Int.gcd u l : Nat) : Int) = 1) := by
                have hl1 : (1 : Int) ≤ l := by omega
                show (decide (1 ≤ l) && decide (Int.gcd u l = 1)) = _
                rw [decide_eq_true hl1, Bool.true_and]
                exact decide_eq_decide.mpr (by omega)
              rw [e] at hQ
              exact hQ
def sp_2 : FSp := fun ds b Q E => ∃ (s : D) (ns : List Int) (k : Int), ds = [s, .int k] ∧ isScr s ns ∧ 0 ≤ k ∧ ∀ u l : Int, u.natAbs < 2 ^ 70 → l ≠ 0 → l.natAbs < 2 ^ 70 → Q (.tup [.int u, .int l]) b
theorem len_2 (ds b Q E) (h : sp_2 ds b Q E) : ds.length = 2 := by
  obtain ⟨s, ns, j, rfl, _⟩ := h
  rfl
/-- one of two -/
theorem atI_two {c : Int} {x y : D} : ∃ d, L2.atI [x, y] (c.fmod 2) = some d ∧ (d = x ∨ d = y) := by
  rw [fmod_pos (by decide)]
  have h1 := Int.emod_nonneg c (show (2 : Int) ≠ 0 by decide)
  have h2 := Int.emod_lt_of_pos c (show (0 : Int) < 2 by decide)
  have h3 : c % 2 = 0 ∨ c % 2 = 1 := by omega
  rcases h3 with h | h <;> rw [h]
  · exact ⟨x, rfl, .inl rfl⟩
  · exact ⟨y, rfl, .inr rfl⟩
theorem meets_2 {G : Gm} (h0 : G.sp 0 = sp_0) (h1 : G.sp 1 = sp_1) (r : G.fr 2 = false) : ∀ ds b Q E, sp_2 ds b Q E → wB G B_2 (kOf (G.fr 2) Q E) (ent N_2.length ds) b := by
  rintro ds b Q E ⟨s, ns, k, rfl, hs, hk, hQ⟩
  unfold B_2 N_2
  trivial
  rw [h0, h1]
  refine ⟨s, ns, k, rfl, hs, hk, fun c0 => ?_⟩
  refine ⟨by decide, s, ns, k + 1, rfl, hs, by omega, fun c1 => ?_⟩
  trivial
  refine ⟨by decide, ?_⟩
  obtain ⟨d, e, hd⟩ := atI_two (c := c1) (x := .int 4) (y := .int (10 ^ Int.toNat 20))
  refine ⟨d, e, ?_⟩
  have hW : ∃ W : Int, d = .int W ∧ 0 ≤ W ∧ W ≤ 10 ^ 20 := by
    rcases hd with rfl | rfl
    · exact ⟨4, rfl, by decide, by decide⟩
    · exact ⟨_, rfl, by decide, by decide⟩
  obtain ⟨W, rfl, hW0, hW1⟩ := hW
  refine ⟨c0, W, rfl, hW0, fun u hu0 hu1 => ?_⟩
  refine ⟨s, ns, k + 2, rfl, hs, by omega, fun c2 => ⟨by decide, s, ns, k + 3, rfl, hs, by omega, fun c3 => ?_⟩⟩
  trivial
  refine ⟨by decide, ?_⟩
  obtain ⟨d, e, hd⟩ := atI_two (c := c3) (x := .int 9) (y := .int (10 ^ Int.toNat 20))
  refine ⟨d, e, ?_⟩
  have hW : ∃ W : Int, d = .int W ∧ 0 < W ∧ W ≤ 10 ^ 20 := by
    rcases hd with rfl | rfl
    · exact ⟨9, rfl, by decide, by decide⟩
    · exact ⟨_, rfl, by decide, by decide⟩
  obtain ⟨V, rfl, hV0, hV1⟩ := hW
  trivial
  refine ⟨by omega, s, ns, k + 4, rfl, hs, by omega, fun c4 => ?_⟩
  trivial
  have q1 := Int.emod_nonneg c2 (show V ≠ 0 by omega)
  have q2 := Int.emod_lt_of_pos c2 hV0
  rw [fmod_pos hV0]
  refine ⟨by decide, L2.ite2 (fun _ => .inl (hQ _ _ ?_ ?_ ?_)) fun _ => .inl (hQ _ _ ?_ ?_ ?_)⟩ <;> omega
end LK

namespace LK
open PySem
local macro_rules | `(tactic| trivial) => `(tactic| simp only [wB, wS, wE, wEs, wO, wC, wSrc, e_neg, e_abs, e_lent, e_lenl, e_lens, e_lenS, e_tupt, e_tupl, e_lstt, e_lstl, e_inti, e_intb, e_str, e_isInt, e_isBool, e_isTup, e_isLst, e_isStr, e_isN, e_notN, e_add, e_sub, e_mul, e_fdiv, e_mod, e_pow, e_lt, e_le, e_gt, e_ge, e_eqi, e_nei, e_cat, e_tcat, e_ixl, e_ixs, e_ixt0, e_ixt1, e_ixt2, e_max, e_min, e_test, e_seql, e_seqt, e_seqs, e_rng, e_rng2, e_zipl, e_zipt, e_ziptt, e_sll, e_slt, e_sls, e_nm, e_pr, gt, st, ent, List.map, List.replicate, List.length, List.cons_append, List.nil_append, kOf, Nat.sub_self, Nat.add_one_sub_one, Nat.reduceAdd, Nat.reduceSub, reduceCtorEq, decide_eq_true_eq, Bool.not_eq_true', decide_eq_false_iff_not, if_true, if_false, Bool.false_eq_true, ite_true, ite_false])
theorem sz_divInt {u l : Int} {n : Nat} (hl : l ≠ 0) (h1 : u.natAbs < 2 ^ n) (h2 : l.natAbs < 2 ^ n) : Sz n (Rat.divInt u l) := by
  constructor
  · rw [Rat.num_divInt, Int.natAbs_ediv_of_dvd]
    · refine Nat.lt_of_le_of_lt (Nat.div_le_self _ _) ?_
      rw [Int.natAbs_mul, Int.natAbs_sign_of_ne_zero hl, Nat.one_mul]
      exact h1
    · refine Int.dvd_trans (Int.gcd_dvd_right ..) (Int.dvd_mul_left ..)
  · rw [Rat.den_divInt, if_neg hl]
    exact Nat.lt_of_le_of_lt (Nat.div_le_self _ _) h2
theorem sz_add {x y : Rat} {n : Nat} (hx : Sz n x) (hy : Sz n y) : Sz (2 * n + 1) (x + y) := by
  rw [← add_divInt]
  refine sz_divInt (Int.mul_ne_zero (den_ne x) (den_ne y)) ?_ ?_
  · have h1 := natAbs_mul_lt hx.num hy.den
    have h2 := natAbs_mul_lt hy.num hx.den
    have h3 := natAbs_add_lt h1 h2
    rw [show 2 * n + 1 = n + n + 1 by omega]
    exact h3
  · exact Nat.lt_of_lt_of_le (natAbs_mul_lt hx.den hy.den) (Nat.pow_le_pow_right (by decide) (by omega))
theorem sz_sub {x y : Rat} {n : Nat} (hx : Sz n x) (hy : Sz n y) : Sz (2 * n + 1) (x - y) := by
  rw [Rat.sub_eq_add_neg]
  exact sz_add hx hy.neg
theorem sz_mul {x y : Rat} {n : Nat} (hx : Sz n x) (hy : Sz n y) : Sz (2 * n) (x * y) := by
  rw [← mul_divInt]
  exact sz_divInt (Int.mul_ne_zero (den_ne x) (den_ne y)) (by rw [show 2 * n = n + n by omega]; exact natAbs_mul_lt hx.num hy.num) (by rw [show 2 * n = n + n by omega]; exact natAbs_mul_lt hx.den hy.den)
theorem sz_mul' {x y : Rat} {n m : Nat} (hx : Sz n x) (hy : Sz m y) : Sz (n + m) (x * y) := by
  rw [← mul_divInt]
  exact sz_divInt (Int.mul_ne_zero (den_ne x) (den_ne y)) (natAbs_mul_lt hx.num hy.num) (natAbs_mul_lt hx.den hy.den)
theorem sz_div {x y : Rat} {n : Nat} (h0 : y ≠ 0) (hx : Sz n x) (hy : Sz n y) : Sz (2 * n) (x / y) := by
  rw [← div_divInt]
  exact sz_divInt (Int.mul_ne_zero (den_ne x) (num_ne h0)) (by rw [show 2 * n = n + n by omega]; exact natAbs_mul_lt hx.num hy.den) (by rw [show 2 * n = n + n by omega]; exact natAbs_mul_lt hx.den hy.num)
theorem num_of {r : Rat} {n d : Int} (h : d ≠ 0) (e : r = Rat.divInt n d) : r.num * d = n * r.den := by
  subst e
  exact num_eq h
theorem divInt_add {a b c d : Int} (hb : b ≠ 0) (hd : d ≠ 0) : Rat.divInt a b + Rat.divInt c d = Rat.divInt (a * d + c * b) (b * d) := Rat.divInt_add_divInt _ _ hb hd
theorem divInt_sub {a b c d : Int} (hb : b ≠ 0) (hd : d ≠ 0) : Rat.divInt a b - Rat.divInt c d = Rat.divInt (a * d - c * b) (b * d) := Rat.divInt_sub_divInt _ _ hb hd
theorem divInt_div {a b c d : Int} : Rat.divInt a b / Rat.divInt c d = Rat.divInt (a * d) (b * c) := by
  rw [Rat.div_def, Rat.inv_divInt, Rat.divInt_mul_divInt]
end LK

/-! Boards: plain Lean, no program. -/
namespace LP
def dot : List Rat → List Rat → Rat
  | a :: as, x :: xs => a * x + dot as xs
  | _, _ => 0
theorem dot_nil_l (xs : List Rat) : dot [] xs = 0 := by cases xs <;> rfl
theorem dot_nil_r (xs : List Rat) : dot xs [] = 0 := by cases xs <;> rfl
theorem dot_cons (a x : Rat) (as xs : List Rat) : dot (a :: as) (x :: xs) = a * x + dot as xs := rfl
theorem dot_set_r : ∀ (as xs : List Rat) (q : Nat) (y : Rat), as.length = xs.length → dot as (xs.set q y) = if q < xs.length then dot as xs + as.getD q 0 * (y - xs.getD q 0) else dot as xs
  | [], [], q, y, _ => by simp [dot]
  | a :: as, x :: xs, 0, y, h => by simp [dot]; grind
  | a :: as, x :: xs, q + 1, y, h => by
    have := dot_set_r as xs q y (by simpa using h)
    simp only [List.set_cons_succ, dot_cons, this, List.getD_cons_succ, List.length_cons, Nat.add_lt_add_iff_right]
    split <;> grind
theorem dot_set_l : ∀ (as xs : List Rat) (q : Nat) (v : Rat), as.length = xs.length → dot (as.set q v) xs = if q < xs.length then dot as xs + (v - as.getD q 0) * xs.getD q 0 else dot as xs
  | [], [], q, y, _ => by simp [dot]
  | a :: as, x :: xs, 0, y, h => by simp [dot]; grind
  | a :: as, x :: xs, q + 1, y, h => by
    have := dot_set_l as xs q y (by simpa using h)
    simp only [List.set_cons_succ, dot_cons, this, List.getD_cons_succ, List.length_cons, Nat.add_lt_add_iff_right]
    split <;> grind
theorem dot_map_neg_div (c : Rat) : ∀ (as xs : List Rat), dot (as.map fun a => -(a / c)) xs = -(dot as xs / c)
  | [], xs => by rw [List.map_nil, dot_nil_l]; grind
  | a :: as, [] => by rw [dot_nil_r, dot_nil_r]; grind
  | a :: as, x :: xs => by
    rw [List.map_cons, dot_cons, dot_cons, dot_map_neg_div c as xs]
    grind
theorem dot_zip (m : Rat) : ∀ (as bs xs : List Rat), as.length = bs.length → dot (List.zipWith (fun a b => a + m * b) as bs) xs = dot as xs + m * dot bs xs
  | [], [], xs, _ => by simp only [List.zipWith_nil_left, dot_nil_l]; grind
  | a :: as, b :: bs, [], _ => by simp only [dot_nil_r]; grind
  | a :: as, b :: bs, x :: xs, h => by
    rw [List.zipWith_cons_cons, dot_cons, dot_cons, dot_cons, dot_zip m as bs xs (by simpa using h)]
    grind
structure Bo where
  heads : List Int
  tails : List Int
  rows : List (List Rat)
  goal : List Rat
def at' (row : List Rat) (p : Nat) : Rat := row.getD (p + 1) 0
def solved (row : List Rat) (p : Nat) : List Rat := (row.map fun a => -(a / at' row p)).set (p + 1) (1 / at' row p)
def putIn (row line : List Rat) (p : Nat) : List Rat := if at' row p = 0 then row else (List.zipWith (fun a b => a + at' row p * b) row line).set (p + 1) (at' row p * at' line p)
def Bo.swap (B : Bo) (r p : Nat) : Bo :=
  { rows := (B.rows.map fun row => putIn row (solved (B.rows.getD r []) p) p).set r (solved (B.rows.getD r []) p)
    goal := putIn B.goal (solved (B.rows.getD r []) p) p
    heads := B.heads.set r (B.tails.getD p 0)
    tails := B.tails.set p (B.heads.getD r 0) }
theorem solved_len (row : List Rat) (p : Nat) : (solved row p).length = row.length := by simp [solved]
theorem putIn_len (row line : List Rat) (p : Nat) (h : row.length = line.length) : (putIn row line p).length = row.length := by
  unfold putIn
  split <;> simp [h]
theorem getD_map_lt {α β : Type} (f : α → β) (xs : List α) (i : Nat) (d : β) (e : α) (h : i < xs.length) : (xs.map f).getD i d = f (xs.getD i e) := by
  simp [List.getD, List.getElem?_map, h]
theorem getD_zip_lt {f : Rat → Rat → Rat} (xs ys : List Rat) (i : Nat) (h : i < xs.length) (h' : i < ys.length) : (List.zipWith f xs ys).getD i 0 = f (xs.getD i 0) (ys.getD i 0) := by
  simp [List.getD, List.getElem?_zipWith, h, h']
/-- the pivot row says the same -/
theorem solved_iff {row ys : List Rat} {p : Nat} {y : Rat} (hl : row.length = ys.length) (hp : p + 1 < ys.length) (h0 : at' row p ≠ 0) :
    ys.getD (p + 1) 0 = dot (solved row p) (ys.set (p + 1) y) ↔ y = dot row ys := by
  have hq : p + 1 < row.length := by omega
  unfold solved
  rw [dot_set_l _ _ _ _ (by simp [hl]), List.length_set, if_pos hp, dot_map_neg_div, dot_set_r _ _ _ _ hl, if_pos hp, getD_map_lt _ _ _ _ 0 hq]
  have e1 : (ys.set (p + 1) y).getD (p + 1) 0 = y := by simp [List.getD, hp]
  rw [e1]
  unfold at' at h0 ⊢
  generalize row.getD (p + 1) 0 = c at h0 ⊢
  generalize ys.getD (p + 1) 0 = w at h0 ⊢
  generalize dot row ys = D at h0 ⊢
  constructor
  · intro h; grind
  · intro h; grind
theorem putIn_eq {row line ys : List Rat} {p : Nat} {y : Rat} (hl : row.length = ys.length) (hl' : line.length = ys.length) (hp : p + 1 < ys.length)
    (h : ys.getD (p + 1) 0 = dot line (ys.set (p + 1) y)) : dot (putIn row line p) (ys.set (p + 1) y) = dot row ys := by
  unfold putIn
  split
  · rename_i h0
    rw [dot_set_r _ _ _ _ hl, if_pos hp]
    unfold at' at h0
    rw [h0]
    grind
  · have e1 : (ys.set (p + 1) y).getD (p + 1) 0 = y := by simp [List.getD, hp]
    rw [dot_set_l _ _ _ _ (by simp [hl, hl']), List.length_set, if_pos hp, dot_zip _ _ _ _ (by omega), ← h, dot_set_r _ _ _ _ hl, if_pos hp, getD_zip_lt _ _ _ (by omega) (by omega), e1]
    unfold at'
    grind

def SolS := Rat → (Int → Rat) → Prop
def ObjZ := Rat → (Int → Rat) → Rat
/-- a board tells a system -/
structure Good (lab : List Int) (S : SolS) (z : ObjZ) (B : Bo) : Prop where
  perm : (B.heads ++ B.tails).Perm lab
  nd : lab.Nodup
  rl : B.rows.length = B.heads.length
  rw' : ∀ row ∈ B.rows, row.length = B.tails.length + 1
  gl : B.goal.length = B.tails.length + 1
  sol : ∀ τ x, S τ x ↔ ∀ i, i < B.heads.length → x (B.heads.getD i 0) = dot (B.rows.getD i []) (τ :: B.tails.map x)
  obj : ∀ τ x, S τ x → z τ x = dot B.goal (τ :: B.tails.map x)
theorem getD_mem {α : Type} {xs : List α} {i : Nat} {d : α} (h : i < xs.length) : xs.getD i d ∈ xs := by
  simp only [List.getD, List.getElem?_eq_getElem h, Option.getD_some]
  exact List.getElem_mem h
theorem Good.row {lab S z B} (G : Good lab S z B) {i : Nat} (h : i < B.heads.length) : (B.rows.getD i []).length = B.tails.length + 1 :=
  G.rw' _ (getD_mem (by rw [G.rl]; exact h))
theorem getD_set {α : Type} (xs : List α) (i j : Nat) (v d : α) : (xs.set i v).getD j d = if i = j ∧ j < xs.length then v else xs.getD j d := by
  simp only [List.getD, List.getElem?_set]
  by_cases h : i = j
  · subst h
    by_cases h2 : i < xs.length <;> simp [h2]
  · simp [h]
theorem map_set' {α β : Type} (f : α → β) (xs : List α) (i : Nat) (v : α) : (xs.set i v).map f = (xs.map f).set i (f v) := List.map_set ..
theorem perm_swap {hs ts : List Int} {r p : Nat} (hr : r < hs.length) (hp : p < ts.length) : (hs.set r (ts.getD p 0) ++ ts.set p (hs.getD r 0)).Perm (hs ++ ts) := by
  rw [List.perm_iff_count]
  intro a
  simp only [List.count_append, List.count_set hr, List.count_set hp]
  have e1 : hs.getD r 0 = hs[r] := by simp [List.getD, hr]
  have e2 : ts.getD p 0 = ts[p] := by simp [List.getD, hp]
  rw [e1, e2]
  have c1 : (if (hs[r] == a) = true then 1 else 0) ≤ hs.count a := by
    split
    · rename_i h
      have : hs[r] = a := by simpa using h
      exact List.count_pos_iff.mpr (this ▸ List.getElem_mem hr)
    · omega
  have c2 : (if (ts[p] == a) = true then 1 else 0) ≤ ts.count a := by
    split
    · rename_i h
      have : ts[p] = a := by simpa using h
      exact List.count_pos_iff.mpr (this ▸ List.getElem_mem hp)
    · omega
  omega
theorem Bo.swap_h (B : Bo) (r p : Nat) : (B.swap r p).heads = B.heads.set r (B.tails.getD p 0) := rfl
theorem Bo.swap_t (B : Bo) (r p : Nat) : (B.swap r p).tails = B.tails.set p (B.heads.getD r 0) := rfl
theorem Good.swap {lab S z B} (G : Good lab S z B) {r p : Nat} (hr : r < B.heads.length) (hp : p < B.tails.length) (h0 : at' (B.rows.getD r []) p ≠ 0) : Good lab S z (B.swap r p) := by
  have hrl := G.row hr
  have hline : (solved (B.rows.getD r []) p).length = B.tails.length + 1 := by rw [solved_len, hrl]
  -- the tails' numbers
  have key : ∀ τ (x : Int → Rat), (τ :: (B.swap r p).tails.map x) = (τ :: B.tails.map x).set (p + 1) (x (B.heads.getD r 0)) := fun τ x => by
    rw [B.swap_t, map_set', List.set_cons_succ]
  have kp : ∀ τ (x : Int → Rat), (τ :: B.tails.map x).getD (p + 1) 0 = x (B.tails.getD p 0) := fun τ x => by
    rw [List.getD_cons_succ, getD_map_lt x _ _ 0 0 hp]
  have kl : ∀ τ (x : Int → Rat), (τ :: B.tails.map x).length = B.tails.length + 1 := fun τ x => by simp
  have piv : ∀ τ (x : Int → Rat), x (B.tails.getD p 0) = dot (solved (B.rows.getD r []) p) ((τ :: B.tails.map x).set (p + 1) (x (B.heads.getD r 0))) ↔ x (B.heads.getD r 0) = dot (B.rows.getD r []) (τ :: B.tails.map x) := fun τ x => by
    rw [← kp τ x]
    exact solved_iff (by rw [kl, hrl]) (by rw [kl]; omega) h0
  have oth : ∀ τ (x : Int → Rat) (row : List Rat), row.length = B.tails.length + 1 → x (B.tails.getD p 0) = dot (solved (B.rows.getD r []) p) ((τ :: B.tails.map x).set (p + 1) (x (B.heads.getD r 0))) →
      dot (putIn row (solved (B.rows.getD r []) p) p) ((τ :: B.tails.map x).set (p + 1) (x (B.heads.getD r 0))) = dot row (τ :: B.tails.map x) := fun τ x row hl h =>
    putIn_eq (by rw [kl, hl]) (by rw [kl, hline]) (by rw [kl]; omega) (by rw [kp]; exact h)
  have rowi : ∀ i, i < B.heads.length → (B.swap r p).rows.getD i [] = if r = i then solved (B.rows.getD r []) p else putIn (B.rows.getD i []) (solved (B.rows.getD r []) p) p := fun i hi => by
    show ((B.rows.map _).set r _).getD i [] = _
    rw [getD_set]
    have hi' : i < B.rows.length := by rw [G.rl]; exact hi
    by_cases e : r = i
    · rw [if_pos ⟨e, by simpa using hi'⟩, if_pos e]
    · rw [if_neg (fun h => e h.1), if_neg e, getD_map_lt _ _ _ _ [] hi']
  have hdi : ∀ i, i < B.heads.length → (B.swap r p).heads.getD i 0 = if r = i then B.tails.getD p 0 else B.heads.getD i 0 := fun i hi => by
    rw [B.swap_h, getD_set]
    by_cases e : r = i
    · rw [if_pos ⟨e, hi⟩, if_pos e]
    · rw [if_neg (fun h => e h.1), if_neg e]
  refine ⟨?_, G.nd, ?_, ?_, ?_, ?_, ?_⟩
  · rw [B.swap_h, B.swap_t]
    exact (perm_swap hr hp).trans G.perm
  · simp [Bo.swap, G.rl]
  · intro row hrow
    have e : (B.swap r p).tails.length = B.tails.length := by simp [Bo.swap]
    rw [e]
    rcases List.mem_or_eq_of_mem_set hrow with h | h
    · obtain ⟨row', h1, rfl⟩ := List.mem_map.mp h
      rw [putIn_len _ _ _ (by rw [hline, G.rw' _ h1]), G.rw' _ h1]
    · rw [h, hline]
  · have e : (B.swap r p).tails.length = B.tails.length := by simp [Bo.swap]
    rw [e]
    show (putIn B.goal _ p).length = _
    rw [putIn_len _ _ _ (by rw [hline, G.gl]), G.gl]
  · intro τ x
    rw [G.sol]
    have el : (B.swap r p).heads.length = B.heads.length := by simp [Bo.swap]
    rw [el]
    constructor
    · intro h i hi
      have hpiv := (piv τ x).mpr (h r hr)
      rw [rowi i hi, hdi i hi, key]
      by_cases e : r = i
      · rw [if_pos e, if_pos e]; exact hpiv
      · rw [if_neg e, if_neg e, oth τ x _ (G.row hi) hpiv]; exact h i hi
    · intro h i hi
      have hpiv := h r hr
      rw [rowi r hr, hdi r hr, if_pos rfl, if_pos rfl, key] at hpiv
      by_cases e : r = i
      · subst e; exact (piv τ x).mp hpiv
      · have := h i hi
        rw [rowi i hi, hdi i hi, if_neg e, if_neg e, key, oth τ x _ (G.row hi) hpiv] at this
        exact this
  · intro τ x hS
    have hpiv := (piv τ x).mpr ((G.sol τ x).mp hS r hr)
    rw [key]
    show _ = dot (putIn B.goal _ p) _
    rw [oth τ x _ G.gl hpiv]
    exact G.obj τ x hS
end LP

namespace LP
def zs (t : Nat) : List Rat := List.replicate t 0
def un (t p : Nat) : List Rat := (zs t).set p 1
theorem dot_zs : ∀ (as : List Rat) (t : Nat), dot as (zs t) = 0
  | [], t => dot_nil_l _
  | a :: as, 0 => rfl
  | a :: as, t + 1 => by
    show a * 0 + dot as (zs t) = 0
    rw [dot_zs as t]
    grind
theorem dot_basic (row : List Rat) (t : Nat) (τ : Rat) : dot row (τ :: zs t) = row.getD 0 0 * τ := by
  cases row with
  | nil => rw [dot_nil_l]; simp
  | cons a as => rw [dot_cons, dot_zs]; simp; grind
theorem dot_unit {row : List Rat} {t p : Nat} (hl : row.length = t + 1) (hp : p < t) : dot row (0 :: un t p) = at' row p := by
  cases row with
  | nil => simp at hl
  | cons a as =>
    have hl' : as.length = (zs t).length := by simpa [zs] using hl
    rw [dot_cons]
    unfold un
    rw [dot_set_r _ _ _ _ hl', if_pos (by simpa [zs] using hp), dot_zs]
    have e : (zs t).getD p 0 = 0 := by simp [zs, List.getD, hp]
    rw [e]
    unfold at'
    rw [List.getD_cons_succ]
    grind
def fill (B : Bo) (τ : Rat) (xs : List Rat) (l : Int) : Rat := if l ∈ B.tails then xs.getD (B.tails.idxOf l) 0 else dot (B.rows.getD (B.heads.idxOf l) []) (τ :: xs)
section
variable {lab : List Int} {S : SolS} {z : ObjZ} {B : Bo}
theorem Good.nodup (G : Good lab S z B) : (B.heads ++ B.tails).Nodup := G.perm.nodup_iff.mpr G.nd
theorem Good.hn (G : Good lab S z B) : B.heads.Nodup := (List.nodup_append.mp G.nodup).1
theorem Good.tn (G : Good lab S z B) : B.tails.Nodup := (List.nodup_append.mp G.nodup).2.1
theorem Good.nb (G : Good lab S z B) {l : Int} (h : l ∈ B.heads) : l ∉ B.tails := fun h2 => (List.nodup_append.mp G.nodup).2.2 l h l h2 rfl
theorem Good.mem (G : Good lab S z B) (l : Int) : l ∈ lab ↔ l ∈ B.heads ∨ l ∈ B.tails := by
  rw [← G.perm.mem_iff, List.mem_append]
theorem getD_eq {α : Type} {xs : List α} {i : Nat} {d : α} (h : i < xs.length) : xs.getD i d = xs[i] := by simp [List.getD, h]
theorem idxOf_getD {xs : List Int} (h : xs.Nodup) {i : Nat} (hi : i < xs.length) : xs.idxOf (xs.getD i 0) = i := by
  rw [getD_eq hi]
  exact h.idxOf_getElem i hi
theorem getD_idxOf {xs : List Int} {l : Int} (h : l ∈ xs) : xs.getD (xs.idxOf l) 0 = l := by
  have := List.idxOf_lt_length_iff.mpr h
  rw [getD_eq this]
  exact List.getElem_idxOf this
theorem Good.fill_t (G : Good lab S z B) {τ : Rat} {xs : List Rat} (hx : xs.length = B.tails.length) {j : Nat} (hj : j < B.tails.length) : fill B τ xs (B.tails.getD j 0) = xs.getD j 0 := by
  unfold fill
  rw [if_pos (getD_mem hj), idxOf_getD G.tn hj]
theorem Good.fill_ts (G : Good lab S z B) {τ : Rat} {xs : List Rat} (hx : xs.length = B.tails.length) : B.tails.map (fill B τ xs) = xs := by
  apply List.ext_getElem
  · simp [hx]
  · intro j h1 h2
    have hj : j < B.tails.length := by simpa using h1
    have := G.fill_t (τ := τ) hx hj
    rw [getD_eq hj, getD_eq h2] at this
    simpa using this
theorem Good.fill_h (G : Good lab S z B) {τ : Rat} {xs : List Rat} {i : Nat} (hi : i < B.heads.length) : fill B τ xs (B.heads.getD i 0) = dot (B.rows.getD i []) (τ :: xs) := by
  unfold fill
  rw [if_neg (G.nb (getD_mem hi)), idxOf_getD G.hn hi]
theorem Good.fill_S (G : Good lab S z B) {τ : Rat} {xs : List Rat} (hx : xs.length = B.tails.length) : S τ (fill B τ xs) := by
  rw [G.sol]
  intro i hi
  rw [G.fill_h hi, G.fill_ts hx]
theorem Good.uniq (G : Good lab S z B) {τ : Rat} {x y : Int → Rat} (hx : S τ x) (hy : S τ y) (h : ∀ l ∈ B.tails, x l = y l) : ∀ l ∈ lab, x l = y l := by
  intro l hl
  rcases (G.mem l).mp hl with h1 | h1
  · have hi : B.heads.idxOf l < B.heads.length := List.idxOf_lt_length_iff.mpr h1
    have a := (G.sol τ x).mp hx _ hi
    have b := (G.sol τ y).mp hy _ hi
    rw [getD_idxOf h1] at a b
    have e : B.tails.map x = B.tails.map y := List.map_congr_left h
    rw [a, b, e]
  · exact h l h1
end
/-! ### Bland's rule -/
/-- entering: least label of those that make the goal greater -/
def Ent (B : Bo) (p : Nat) : Prop := p < B.tails.length ∧ 0 < at' B.goal p ∧ ∀ j, j < B.tails.length → 0 < at' B.goal j → B.tails.getD p 0 ≤ B.tails.getD j 0
/-- leaving: nearest, of these the least -/
def ratio (row : List Rat) (p : Nat) : Rat := -(row.getD 0 0 / at' row p)
def Lea (B : Bo) (p r : Nat) : Prop := r < B.heads.length ∧ at' (B.rows.getD r []) p < 0 ∧ ∀ i, i < B.heads.length → at' (B.rows.getD i []) p < 0 →
  ratio (B.rows.getD r []) p < ratio (B.rows.getD i []) p ∨ (ratio (B.rows.getD r []) p = ratio (B.rows.getD i []) p ∧ B.heads.getD r 0 ≤ B.heads.getD i 0)
def Feas (B : Bo) : Prop := ∀ i, i < B.heads.length → 0 ≤ (B.rows.getD i []).getD 0 0
structure Step (B B' : Bo) : Prop where
  ex : ∃ r p, Ent B p ∧ Lea B p r ∧ B' = B.swap r p
theorem dot_pos : ∀ (as xs : List Rat), 0 < dot as xs → ∃ j, j < as.length ∧ j < xs.length ∧ 0 < as.getD j 0 * xs.getD j 0
  | [], xs, h => by rw [dot_nil_l] at h; grind
  | a :: as, [], h => by rw [dot_nil_r] at h; grind
  | a :: as, x :: xs, h => by
    rw [dot_cons] at h
    by_cases h1 : 0 < a * x
    · exact ⟨0, by simp, by simp, by simpa using h1⟩
    · obtain ⟨j, q1, q2, q3⟩ := dot_pos as xs (by grind)
      exact ⟨j + 1, by simpa using q1, by simpa using q2, by simpa using q3⟩
theorem div_neg_le {a c : Rat} (ha : 0 ≤ a) (hc : c < 0) : 0 ≤ -(a / c) := by
  have h1 : 0 < -c := by grind
  have h2 : -(a / c) = a / (-c) := by grind
  rw [h2]
  rw [Rat.div_def]
  exact Rat.mul_nonneg ha (Rat.le_of_lt (Rat.inv_pos.mpr h1))
section
variable {lab : List Int} {S : SolS} {z : ObjZ} {B : Bo}
/-- a pivot keeps a board that tells numbers from nought on -/
theorem swap_row (G : Good lab S z B) {r p : Nat} (hr : r < B.heads.length) (hp : p < B.tails.length) {i : Nat} (hi : i < B.heads.length) :
    ((B.swap r p).rows.getD i []).getD 0 0 = if r = i then ratio (B.rows.getD r []) p else (B.rows.getD i []).getD 0 0 + at' (B.rows.getD i []) p * ratio (B.rows.getD r []) p := by
  have hi' : i < B.rows.length := by rw [G.rl]; exact hi
  have hl := G.row hr
  have hl2 := G.row hi
  have hs : (solved (B.rows.getD r []) p).getD 0 0 = ratio (B.rows.getD r []) p := by
    unfold solved ratio
    rw [getD_set, if_neg (by omega), getD_map_lt _ _ _ _ 0 (by omega)]
  show (((B.rows.map _).set r _).getD i []).getD 0 0 = _
  rw [getD_set]
  by_cases e : r = i
  · rw [if_pos ⟨e, by simpa using hi'⟩, if_pos e, hs]
  · rw [if_neg (fun h => e h.1), if_neg e, getD_map_lt _ _ _ _ [] hi']
    unfold putIn
    split
    · rename_i h0
      rw [h0]
      grind
    · rw [getD_set, if_neg (by omega), getD_zip_lt _ _ _ (by omega) (by rw [solved_len]; omega), hs]
theorem Lea.ne {p r : Nat} (h : Lea B p r) : at' (B.rows.getD r []) p ≠ 0 := by have := h.2.1; grind
theorem swap_feas (G : Good lab S z B) (F : Feas B) {r p : Nat} (hp : p < B.tails.length) (h : Lea B p r) : Feas (B.swap r p) := by
  intro i hi
  have hi' : i < B.heads.length := by simpa [Bo.swap] using hi
  rw [swap_row G h.1 hp hi']
  have hr0 : 0 ≤ ratio (B.rows.getD r []) p := div_neg_le (F r h.1) h.2.1
  split
  · exact hr0
  · have hi0 := F i hi'
    by_cases hc : at' (B.rows.getD i []) p < 0
    · have hq := h.2.2 i hi' hc
      have hle : ratio (B.rows.getD r []) p ≤ ratio (B.rows.getD i []) p := by rcases hq with q | q <;> grind
      have e : (B.rows.getD i []).getD 0 0 = -(at' (B.rows.getD i []) p * ratio (B.rows.getD i []) p) := by
        unfold ratio
        grind
      have : at' (B.rows.getD i []) p * ratio (B.rows.getD i []) p ≤ at' (B.rows.getD i []) p * ratio (B.rows.getD r []) p := by
        have := Rat.mul_le_mul_of_nonneg_left hle (show 0 ≤ -at' (B.rows.getD i []) p by grind)
        grind
      grind
    · have := Rat.mul_nonneg (show 0 ≤ at' (B.rows.getD i []) p by grind) hr0
      grind
theorem Step.good {B' : Bo} (s : Step B B') (G : Good lab S z B) : Good lab S z B' := by
  obtain ⟨r, p, h1, h2, rfl⟩ := s.ex
  exact G.swap h2.1 h1.1 h2.ne
theorem Step.feas {B' : Bo} (s : Step B B') (G : Good lab S z B) (F : Feas B) : Feas B' := by
  obtain ⟨r, p, h1, h2, rfl⟩ := s.ex
  exact swap_feas G F h1.1 h2
/-- the point where all tails are nought -/
def bas (B : Bo) : Int → Rat := fill B 1 (zs B.tails.length)
theorem zs_len (t : Nat) : (zs t).length = t := by simp [zs]
theorem getD_zs (t j : Nat) : (zs t).getD j 0 = 0 := by
  unfold zs
  simp only [List.getD, List.getElem?_replicate]
  split <;> rfl
theorem bas_t (G : Good lab S z B) {l : Int} (h : l ∈ B.tails) : bas B l = 0 := by
  unfold bas fill
  rw [if_pos h, getD_zs]
theorem bas_h (G : Good lab S z B) {i : Nat} (h : i < B.heads.length) : bas B (B.heads.getD i 0) = (B.rows.getD i []).getD 0 0 := by
  unfold bas
  rw [G.fill_h h, dot_basic]
  grind
theorem bas_S (G : Good lab S z B) : S 1 (bas B) := G.fill_S (zs_len _)
theorem bas_z (G : Good lab S z B) : z 1 (bas B) = B.goal.getD 0 0 := by
  rw [G.obj _ _ (bas_S G)]
  unfold bas
  rw [G.fill_ts (zs_len _), dot_basic]
  grind
theorem swap_goal (G : Good lab S z B) {r p : Nat} (hr : r < B.heads.length) (hp : p < B.tails.length) : (B.swap r p).goal.getD 0 0 = B.goal.getD 0 0 + at' B.goal p * ratio (B.rows.getD r []) p := by
  have hl := G.row hr
  have hl2 := G.gl
  have hs : (solved (B.rows.getD r []) p).getD 0 0 = ratio (B.rows.getD r []) p := by
    unfold solved ratio
    rw [getD_set, if_neg (by omega), getD_map_lt _ _ _ _ 0 (by omega)]
  show (putIn B.goal _ p).getD 0 0 = _
  unfold putIn
  split
  · rename_i h0
    rw [h0]
    grind
  · rw [getD_set, if_neg (by omega), getD_zip_lt _ _ _ (by omega) (by rw [solved_len]; omega), hs]
end
theorem max_of : ∀ (xs : List Int) (F : Int → Prop), (∃ l ∈ xs, F l) → ∃ t ∈ xs, F t ∧ ∀ l ∈ xs, F l → l ≤ t
  | [], F, ⟨l, h, _⟩ => by simp at h
  | a :: xs, F, ⟨l, h, hl⟩ => by
    by_cases hx : ∃ l ∈ xs, F l
    · obtain ⟨t, h1, h2, h3⟩ := max_of xs F hx
      by_cases ha : F a ∧ t < a
      · refine ⟨a, by simp, ha.1, fun l hl fl => ?_⟩
        rcases List.mem_cons.mp hl with e | e
        · omega
        · have := h3 l e fl
          omega
      · refine ⟨t, by simp [h1], h2, fun l hl fl => ?_⟩
        rcases List.mem_cons.mp hl with e | e
        · subst e
          have : ¬ t < l := fun q => ha ⟨fl, q⟩
          omega
        · exact h3 l e fl
    · rcases List.mem_cons.mp h with e | e
      · subst e
        exact ⟨l, by simp, hl, fun m hm fm => by
          rcases List.mem_cons.mp hm with e | e
          · omega
          · exact absurd ⟨m, e, fm⟩ hx⟩
      · exact absurd ⟨l, e, hl⟩ hx
/-- a first change -/
theorem flip_at (P : Nat → Prop) : ∀ (n a : Nat), P a → ¬ P (a + n) → ∃ m, a ≤ m ∧ m < a + n ∧ P m ∧ ¬ P (m + 1)
  | 0, a, h, h' => absurd h h'
  | n + 1, a, h, h' => by
    by_cases q : P (a + 1)
    · obtain ⟨m, h1, h2, h3⟩ := flip_at P n (a + 1) q (by rw [show a + 1 + n = a + (n + 1) by omega]; exact h')
      exact ⟨m, by omega, by omega, h3⟩
    · exact ⟨a, by omega, by omega, h, q⟩
theorem bland {lab : List Int} {S : SolS} {z : ObjZ} (D : Nat → Bo) (k : Nat) (hk : 0 < k) (G : ∀ m, m ≤ k → Good lab S z (D m)) (F : ∀ m, m ≤ k → Feas (D m)) (st : ∀ m, m < k → Step (D m) (D (m + 1)))
    (same : ∀ l, l ∈ (D k).tails ↔ l ∈ (D 0).tails) : False := by
  -- goals rise
  have up : ∀ m, m < k → (D m).goal.getD 0 0 ≤ (D (m + 1)).goal.getD 0 0 := fun m hm => by
    obtain ⟨r, p, h1, h2, e⟩ := (st m hm).ex
    rw [e, swap_goal (G m (by omega)) h2.1 h1.1]
    have := Rat.mul_nonneg (show 0 ≤ at' (D m).goal p by have := h1.2.1; grind) (div_neg_le (F m (by omega) r h2.1) h2.2.1)
    unfold ratio
    grind
  have ups : ∀ n m, m + n ≤ k → (D m).goal.getD 0 0 ≤ (D (m + n)).goal.getD 0 0 := by
    intro n
    induction n with
    | zero => intro m _; exact Rat.le_refl
    | succ n ih =>
      intro m hm
      have a := ih m (by omega)
      have b := up (m + n) (by omega)
      rw [show m + n + 1 = m + (n + 1) by omega] at b
      exact Rat.le_trans a b
  have eqs : (D 0).goal.getD 0 0 = (D k).goal.getD 0 0 := by
    rw [← bas_z (G 0 (by omega)), ← bas_z (G k (by omega)), (G 0 (by omega)).obj _ _ (bas_S (G 0 (by omega))), (G 0 (by omega)).obj _ _ (bas_S (G k (by omega)))]
    have e : (D 0).tails.map (bas (D 0)) = (D 0).tails.map (bas (D k)) := List.map_congr_left fun l hl => by
      rw [bas_t (G 0 (by omega)) hl, bas_t (G k (by omega)) ((same l).mpr hl)]
    rw [e]
  -- each room is nought
  have nought : ∀ m, m < k → ∀ r p, Ent (D m) p → Lea (D m) p r → D (m + 1) = (D m).swap r p → ratio ((D m).rows.getD r []) p = 0 := fun m hm r p h1 h2 e => by
    have a := ups m 0 (by omega)
    have b := ups (k - (m + 1)) (m + 1) (by omega)
    rw [Nat.zero_add] at a
    rw [show m + 1 + (k - (m + 1)) = k by omega, ← eqs] at b
    rw [e, swap_goal (G m (by omega)) h2.1 h1.1] at b
    have hc := h1.2.1
    have hq := div_neg_le (F m (by omega) r h2.1) h2.2.1
    have : ratio ((D m).rows.getD r []) p ≤ 0 := by
      apply Classical.byContradiction
      intro hn
      have := Rat.mul_pos hc (show 0 < ratio ((D m).rows.getD r []) p by grind)
      grind
    unfold ratio at *
    grind
  have basEq : ∀ m, m < k → ∀ l ∈ lab, bas (D (m + 1)) l = bas (D m) l := fun m hm => by
    obtain ⟨r, p, h1, h2, e⟩ := (st m hm).ex
    refine (G m (by omega)).uniq (bas_S (G (m + 1) (by omega))) (bas_S (G m (by omega))) fun l hl => ?_
    rw [bas_t (G m (by omega)) hl]
    by_cases hl' : l ∈ (D (m + 1)).tails
    · exact bas_t (G (m + 1) (by omega)) hl'
    · -- it came in
      have hh : l ∈ (D (m + 1)).heads := by
        rcases ((G (m + 1) (by omega)).mem l).mp (((G m (by omega)).mem l).mpr (.inr hl)) with q | q
        · exact q
        · exact absurd q hl'
      have e2 : (D (m + 1)).heads = (D m).heads.set r ((D m).tails.getD p 0) := by rw [e]; rfl
      have e3 : l = (D m).tails.getD p 0 := by
        rw [e2] at hh
        rcases List.mem_or_eq_of_mem_set hh with q | q
        · exact absurd hl ((G m (by omega)).nb q)
        · exact q
      have hr' : r < (D (m + 1)).heads.length := by rw [e2]; simpa using h2.1
      have e4 : (D (m + 1)).heads.getD r 0 = l := by rw [e2, getD_set, if_pos ⟨rfl, h2.1⟩, e3]
      rw [← e4, bas_h (G (m + 1) (by omega)) hr', e, swap_row (G m (by omega)) h2.1 h1.1 h2.1, if_pos rfl]
      exact nought m hm r p h1 h2 e
  have basAll : ∀ n m, m + n ≤ k → ∀ l ∈ lab, bas (D (m + n)) l = bas (D m) l := by
    intro n
    induction n with
    | zero => intro m _ l _; rfl
    | succ n ih =>
      intro m hm l hl
      rw [show m + (n + 1) = (m + n) + 1 by omega, basEq (m + n) (by omega) l hl]
      exact ih m (by omega) l hl
  have bas2 : ∀ m m', m ≤ k → m' ≤ k → ∀ l ∈ lab, bas (D m) l = bas (D m') l := fun m m' h h' l hl => by
    have a := basAll m 0 (by omega) l hl
    have b := basAll m' 0 (by omega) l hl
    rw [Nat.zero_add] at a b
    rw [a, b]
  let Fk : Int → Prop := fun l => (∃ m, m ≤ k ∧ l ∈ (D m).tails) ∧ ∃ m, m ≤ k ∧ l ∉ (D m).tails
  -- what goes in and out
  have inOut : ∀ m, m < k → ∀ r p, Ent (D m) p → Lea (D m) p r → D (m + 1) = (D m).swap r p → ∀ l, l ∈ (D (m + 1)).tails ↔ (l ∈ (D m).tails ∧ l ≠ (D m).tails.getD p 0) ∨ l = (D m).heads.getD r 0 := fun m hm r p h1 h2 e l => by
    have hd := (G m (by omega)).tn
    have e2 : (D (m + 1)).tails = (D m).tails.set p ((D m).heads.getD r 0) := by rw [e]; rfl
    have nd2 := (G (m + 1) (by omega)).nb (l := (D m).tails.getD p 0)
    have e3 : (D m).tails.getD p 0 ∈ (D (m + 1)).heads := by
      rw [e]
      show _ ∈ (D m).heads.set r _
      exact List.mem_set h2.1 _
    constructor
    · intro h
      by_cases q : l = (D m).heads.getD r 0
      · exact .inr q
      · left
        refine ⟨?_, fun z => nd2 e3 (z ▸ h)⟩
        rw [e2] at h
        rcases List.mem_or_eq_of_mem_set h with h | h
        · exact h
        · exact absurd h q
    · rintro (⟨h, q⟩ | h)
      · rw [e2]
        obtain ⟨j, hj, ej⟩ := List.mem_iff_getElem.mp h
        have : p ≠ j := fun z => q (by subst z; rw [getD_eq hj, ej])
        exact List.mem_iff_getElem.mpr ⟨j, by simpa using hj, by rw [List.getElem_set_ne this]; exact ej⟩
      · rw [e2, h]
        exact List.mem_set h1.1 _
  have hF : ∃ l ∈ lab, Fk l := by
    obtain ⟨r, p, h1, h2, e⟩ := (st 0 hk).ex
    have hm : (D 0).tails.getD p 0 ∈ (D 0).tails := getD_mem h1.1
    refine ⟨(D 0).tails.getD p 0, ((G 0 (by omega)).mem _).mpr (.inr hm), ⟨0, by omega, hm⟩, 1, by omega, fun h => ?_⟩
    rcases (inOut 0 hk r p h1 h2 e _).mp h with q | q
    · exact q.2 rfl
    · exact (G 0 (by omega)).nb (l := (D 0).tails.getD p 0) (q ▸ getD_mem h2.1) hm
  obtain ⟨t, ht, ⟨⟨m1, hm1, ht1⟩, m2, hm2, ht2⟩, tmax⟩ := max_of lab Fk hF
  -- t leaves the tails somewhere, and comes to them somewhere
  have hin : ∃ a, a < k ∧ t ∈ (D a).tails ∧ t ∉ (D (a + 1)).tails := by
    by_cases h0 : t ∈ (D 0).tails
    · obtain ⟨m, _, h2, h3⟩ := flip_at (fun m => t ∈ (D m).tails) m2 0 h0 (by rw [Nat.zero_add]; exact ht2)
      exact ⟨m, by omega, h3⟩
    · obtain ⟨m, _, h2, h3⟩ := flip_at (fun m => t ∈ (D m).tails) (k - m1) m1 ht1 (by rw [show m1 + (k - m1) = k by omega]; exact fun h => h0 ((same t).mp h))
      exact ⟨m, by omega, h3⟩
  have hout : ∃ b, b < k ∧ t ∉ (D b).tails ∧ t ∈ (D (b + 1)).tails := by
    by_cases h0 : t ∈ (D 0).tails
    · obtain ⟨m, _, h2, h3, h4⟩ := flip_at (fun m => t ∉ (D m).tails) (k - m2) m2 ht2 (by rw [show m2 + (k - m2) = k by omega]; exact fun h => h ((same t).mpr h0))
      exact ⟨m, by omega, h3, Classical.not_not.mp h4⟩
    · obtain ⟨m, _, h2, h3, h4⟩ := flip_at (fun m => t ∉ (D m).tails) m1 0 h0 (by rw [Nat.zero_add]; exact fun h => h ht1)
      exact ⟨m, by omega, h3, Classical.not_not.mp h4⟩
  obtain ⟨a, ha, ta, ta'⟩ := hin
  obtain ⟨b, hb, tb, tb'⟩ := hout
  obtain ⟨ra, pa, a1, a2, ae⟩ := (st a ha).ex
  obtain ⟨rb, pb, b1, b2, be⟩ := (st b hb).ex
  have Ga := G a (by omega)
  have Gb := G b (by omega)
  have e1 : t = (D a).tails.getD pa 0 := by
    apply Classical.byContradiction
    intro q
    exact ta' ((inOut a ha ra pa a1 a2 ae t).mpr (.inl ⟨ta, q⟩))
  have e2 : t = (D b).heads.getD rb 0 := by
    rcases (inOut b hb rb pb b1 b2 be t).mp tb' with q | q
    · exact absurd q.1 tb
    · exact q
  have hpt : (D b).tails.getD pb 0 ∈ (D b).tails := getD_mem b1.1
  have sF : Fk ((D b).tails.getD pb 0) := ⟨⟨b, by omega, hpt⟩, b + 1, by omega, fun h => by
    rcases (inOut b hb rb pb b1 b2 be _).mp h with q | q
    · exact q.2 rfl
    · exact Gb.nb (l := (D b).tails.getD pb 0) (q ▸ getD_mem b2.1) hpt⟩
  have sLe : (D b).tails.getD pb 0 ≤ t := tmax _ ((Gb.mem _).mpr (.inr hpt)) sF
  have sNe : (D b).tails.getD pb 0 ≠ t := fun q => tb (q ▸ hpt)
  -- the way in D b
  let x : Int → Rat := fill (D b) 0 (un (D b).tails.length pb)
  have ul : (un (D b).tails.length pb).length = (D b).tails.length := by simp [un, zs]
  have hS : S 0 x := Gb.fill_S ul
  have zx : z 0 x = at' (D b).goal pb := by
    rw [Gb.obj _ _ hS]
    show dot _ (0 :: (D b).tails.map (fill _ _ _)) = _
    rw [Gb.fill_ts ul, dot_unit Gb.gl b1.1]
  have zpos : 0 < z 0 x := by rw [zx]; exact b1.2.1
  rw [Ga.obj _ _ hS] at zpos
  obtain ⟨j, hj1, hj2, hj⟩ := dot_pos _ _ zpos
  cases j with
  | zero => simp at hj
  | succ j =>
    have hj3 : j < (D a).tails.length := by simpa using hj2
    rw [List.getD_cons_succ, getD_map_lt x _ _ 0 0 hj3] at hj
    have hla : (D a).tails.getD j 0 ∈ (D a).tails := getD_mem hj3
    generalize hl : (D a).tails.getD j 0 = l at hj hla
    have hlab : l ∈ lab := (Ga.mem l).mpr (.inr hla)
    have coef : l < t → at' (D a).goal j ≤ 0 := fun h => by
      apply Classical.byContradiction
      intro q
      have := a1.2.2 j hj3 (by grind)
      rw [hl, ← e1] at this
      omega
    have cpos : l = t → 0 < at' (D a).goal j := fun h => by
      have : j = pa := by
        have q1 := idxOf_getD Ga.tn hj3
        have q2 := idxOf_getD Ga.tn a1.1
        rw [hl, h] at q1
        rw [← e1] at q2
        omega
      rw [this]
      exact a1.2.1
    have hj' : 0 < at' (D a).goal j * x l := hj
    by_cases hlb : l ∈ (D b).tails
    · -- only the entering one moves
      by_cases hls : l = (D b).tails.getD pb 0
      · have c := coef (by omega)
        have xl : x l = 1 := by
          rw [hls]
          show fill _ _ _ _ = _
          rw [Gb.fill_t ul b1.1]
          unfold un
          rw [getD_set, if_pos ⟨rfl, by rw [zs_len]; exact b1.1⟩]
        rw [xl] at hj'
        grind
      · have xl : x l = 0 := by
          show fill _ _ _ _ = _
          unfold fill
          rw [if_pos hlb]
          unfold un
          rw [getD_set, if_neg, getD_zs]
          intro q
          exact hls (by rw [q.1, getD_idxOf hlb])
        rw [xl] at hj'
        grind
    · have hlh : l ∈ (D b).heads := by
        rcases (Gb.mem l).mp hlab with q | q
        · exact q
        · exact absurd q hlb
      have hi : (D b).heads.idxOf l < (D b).heads.length := List.idxOf_lt_length_iff.mpr hlh
      have xl : x l = at' ((D b).rows.getD ((D b).heads.idxOf l) []) pb := by
        show fill _ _ _ _ = _
        unfold fill
        rw [if_neg hlb, dot_unit (Gb.row hi) b1.1]
      have lF : Fk l := ⟨⟨a, by omega, hla⟩, b, by omega, hlb⟩
      have lLe := tmax l hlab lF
      by_cases hlt : l = t
      · have c := cpos hlt
        have : (D b).heads.idxOf l = rb := by rw [hlt, e2]; exact idxOf_getD Gb.hn b2.1
        rw [this] at xl
        have n := b2.2.1
        rw [xl] at hj'
        have := Rat.mul_pos c (show 0 < -at' ((D b).rows.getD rb []) pb by grind)
        grind
      · have c := coef (by omega)
        have n : at' ((D b).rows.getD ((D b).heads.idxOf l) []) pb < 0 := by
          apply Classical.byContradiction
          intro q
          rw [xl] at hj'
          have := Rat.mul_nonneg (show 0 ≤ -at' (D a).goal j by grind) (show 0 ≤ at' ((D b).rows.getD ((D b).heads.idxOf l) []) pb by grind)
          grind
        have b0 : ((D b).rows.getD ((D b).heads.idxOf l) []).getD 0 0 = 0 := by
          rw [← bas_h Gb hi, getD_idxOf hlh, bas2 b a (by omega) (by omega) l hlab]
          exact bas_t Ga hla
        have q0 := nought b hb rb pb b1 b2 be
        have qi : ratio ((D b).rows.getD ((D b).heads.idxOf l) []) pb = 0 := by
          unfold ratio
          rw [b0]
          grind
        rcases b2.2.2 _ hi n with q | q
        · rw [q0, qi] at q
          grind
        · have := q.2
          rw [getD_idxOf hlh, ← e2] at this
          omega
end LP

namespace LP
/-! ### pigeons -/
theorem nodup_le : ∀ (N : Nat) (xs : List Nat), xs.Nodup → (∀ a ∈ xs, a < N) → xs.length ≤ N
  | 0, xs, _, h => by
    cases xs with
    | nil => simp
    | cons a as => exact absurd (h a (by simp)) (by omega)
  | N + 1, xs, hd, h => by
    have h1 : (xs.erase N).Nodup := hd.erase N
    have h2 : ∀ a ∈ xs.erase N, a < N := fun a ha => by
      have q := h a (List.mem_of_mem_erase ha)
      have : a ≠ N := fun e => by
        subst e
        exact (List.Nodup.not_mem_erase hd) ha
      omega
    have := nodup_le N _ h1 h2
    have h3 := List.length_erase (l := xs) (a := N)
    split at h3 <;> omega
theorem php (N : Nat) (f : Nat → Nat) (h : ∀ i, i ≤ N → f i < N) : ∃ i j, i < j ∧ j ≤ N ∧ f i = f j := by
  apply Classical.byContradiction
  intro hn
  have hd : ((List.range (N + 1)).map f).Nodup := by
    unfold List.Nodup
    rw [List.pairwise_iff_getElem]
    intro i j hi hj hij e
    simp at hi hj e
    exact hn ⟨i, j, hij, by omega, e⟩
  have := nodup_le N _ hd fun a ha => by
    obtain ⟨i, hi, rfl⟩ := List.mem_map.mp ha
    exact h i (by simp at hi; omega)
  simp at this
  omega
/-! ### a run of steps is bounded -/
def enc : List Bool → Nat
  | [] => 0
  | b :: bs => (if b then 1 else 0) + 2 * enc bs
theorem enc_lt : ∀ bs : List Bool, enc bs < 2 ^ bs.length
  | [] => by simp [enc]
  | b :: bs => by
    have := enc_lt bs
    simp only [enc, List.length_cons, Nat.pow_succ]
    split <;> omega
theorem enc_inj : ∀ as bs : List Bool, as.length = bs.length → enc as = enc bs → as = bs
  | [], [], _, _ => rfl
  | a :: as, b :: bs, h, e => by
    simp only [enc] at e
    have h1 : enc as = enc bs := by cases a <;> cases b <;> simp at e <;> omega
    have h2 : a = b := by cases a <;> cases b <;> simp at e <;> first | rfl | omega
    rw [h2, enc_inj as bs (by simpa using h) h1]
def key (lab : List Int) (B : Bo) : Nat := enc (lab.map fun l => decide (l ∈ B.tails))
structure Run (lab : List Int) (S : SolS) (z : ObjZ) (D : Nat → Bo) (k : Nat) : Prop where
  good : ∀ m, m ≤ k → Good lab S z (D m)
  feas : ∀ m, m ≤ k → Feas (D m)
  step : ∀ m, m < k → Step (D m) (D (m + 1))
theorem Run.start {lab S z B} (G : Good lab S z B) (F : Feas B) : Run lab S z (fun _ => B) 0 := ⟨fun _ _ => G, fun _ _ => F, fun m h => absurd h (by omega)⟩
theorem Run.next {lab S z D k B} (R : Run lab S z D k) (s : Step (D k) B) : Run lab S z (fun m => if m ≤ k then D m else B) (k + 1) := by
  refine ⟨fun m h => ?_, fun m h => ?_, fun m h => ?_⟩
  · show Good _ _ _ (if m ≤ k then D m else B)
    split
    · exact R.good m (by assumption)
    · exact s.good (R.good k (by omega))
  · show Feas (if m ≤ k then D m else B)
    split
    · exact R.feas m (by assumption)
    · exact s.feas (R.good k (by omega)) (R.feas k (by omega))
  · show Step (if m ≤ k then D m else B) (if m + 1 ≤ k then D (m + 1) else B)
    rw [if_pos (show m ≤ k by omega)]
    split
    · exact R.step m (by omega)
    · rw [show m = k by omega]; exact s
theorem Run.bound {lab S z D k} (R : Run lab S z D k) : k < 2 ^ lab.length := by
  apply Classical.byContradiction
  intro hn
  obtain ⟨i, j, hij, hj, e⟩ := php (2 ^ lab.length) (fun m => key lab (D m)) fun m _ => by
    have := enc_lt (lab.map fun l => decide (l ∈ (D m).tails))
    simpa [key] using this
  have e2 := enc_inj _ _ (by simp) e
  refine bland (lab := lab) (S := S) (z := z) (fun m => D (i + m)) (j - i) (by omega) (fun m h => R.good _ (by omega)) (fun m h => R.feas _ (by omega)) (fun m h => R.step _ (by omega)) fun l => ?_
  have ej : i + (j - i) = j := by omega
  simp only [ej, Nat.add_zero]
  have key : l ∈ lab → (l ∈ (D j).tails ↔ l ∈ (D i).tails) := fun hl => by
    have := List.map_inj_left.mp e2 l hl
    have := decide_eq_decide.mp this
    exact this.symm
  constructor
  · intro h
    exact (key (((R.good j (by omega)).mem l).mpr (.inr h))).mp h
  · intro h
    exact (key (((R.good i (by omega)).mem l).mpr (.inr h))).mpr h
/-! ### a small whole vector -/
def dI : List Int → List Int → Int
  | a :: as, x :: xs => a * x + dI as xs
  | _, _ => 0
theorem dI_cast : ∀ (as xs : List Int), ((dI as xs : Int) : Rat) = dot (as.map (Int.cast : Int → Rat)) (xs.map (Int.cast : Int → Rat))
  | [], xs => by simp [dI, dot_nil_l]
  | a :: as, [] => by simp [dI, dot_nil_r]
  | a :: as, x :: xs => by
    simp only [dI, List.map_cons, dot_cons, Rat.intCast_add, Rat.intCast_mul]
    rw [dI_cast as xs]
theorem dI_le (M H : Nat) : ∀ (as xs : List Int), (∀ a ∈ as, a.natAbs ≤ M) → (∀ x ∈ xs, x.natAbs ≤ H) → (dI as xs).natAbs ≤ xs.length * (M * H)
  | [], xs, _, _ => by simp [dI]
  | a :: as, [], _, _ => by simp [dI]
  | a :: as, x :: xs, h, h' => by
    have ih := dI_le M H as xs (fun a h1 => h a (by simp [h1])) (fun a h1 => h' a (by simp [h1]))
    have e := Int.natAbs_add_le (a * x) (dI as xs)
    have e2 : (a * x).natAbs ≤ M * H := by
      rw [Int.natAbs_mul]
      exact Nat.mul_le_mul (h a (by simp)) (h' x (by simp))
    simp only [dI, List.length_cons]
    rw [Nat.add_mul, Nat.one_mul]
    omega
theorem dI_sub : ∀ (as xs ys : List Int), xs.length = ys.length → dI as (List.zipWith (· - ·) xs ys) = dI as xs - dI as ys
  | [], xs, ys, _ => by simp [dI]
  | a :: as, [], [], _ => by simp [dI]
  | a :: as, x :: xs, y :: ys, h => by
    simp only [List.zipWith_cons_cons, dI]
    rw [dI_sub as xs ys (by simpa using h)]
    grind
def digs : Nat → Nat → Nat → List Int
  | 0, _, _ => []
  | n + 1, B, i => ((i % B : Nat) : Int) :: digs n B (i / B)
theorem digs_len : ∀ n B i, (digs n B i).length = n
  | 0, _, _ => rfl
  | n + 1, B, i => by simp [digs, digs_len n]
theorem digs_lt (B : Nat) (hB : 0 < B) : ∀ n i, ∀ a ∈ digs n B i, 0 ≤ a ∧ a < B
  | 0, i, a, h => by simp [digs] at h
  | n + 1, i, a, h => by
    rcases List.mem_cons.mp h with e | e
    · have := Nat.mod_lt i hB
      omega
    · exact digs_lt B hB n _ a e
theorem digs_inj (B : Nat) (hB : 0 < B) : ∀ n i j, i < B ^ n → j < B ^ n → digs n B i = digs n B j → i = j
  | 0, i, j, h, h', _ => by simp at h h'; omega
  | n + 1, i, j, h, h', e => by
    simp only [digs, List.cons.injEq] at e
    have h1 : i / B < B ^ n := Nat.div_lt_of_lt_mul (by rw [Nat.pow_succ, Nat.mul_comm] at h; exact h)
    have h2 : j / B < B ^ n := Nat.div_lt_of_lt_mul (by rw [Nat.pow_succ, Nat.mul_comm] at h'; exact h')
    have e2 := digs_inj B hB n _ _ h1 h2 e.2
    have e1 : i % B = j % B := by have := e.1; omega
    rw [← Nat.div_add_mod i B, ← Nat.div_add_mod j B, e1, e2]
def undig (W : Nat) : List Nat → Nat
  | [] => 0
  | a :: as => a + W * undig W as
theorem undig_lt (W : Nat) (hW : 0 < W) : ∀ as : List Nat, (∀ a ∈ as, a < W) → undig W as < W ^ as.length
  | [], _ => by simp [undig]
  | a :: as, h => by
    have h1 := undig_lt W hW as fun b hb => h b (by simp [hb])
    have h2 := h a (by simp)
    simp only [undig, List.length_cons, Nat.pow_succ]
    have : W * (undig W as + 1) ≤ W * W ^ as.length := Nat.mul_le_mul_left _ h1
    rw [Nat.mul_add, Nat.mul_one] at this
    rw [Nat.mul_comm (W ^ as.length)]
    omega
theorem undig_inj (W : Nat) (hW : 0 < W) : ∀ as bs : List Nat, as.length = bs.length → (∀ a ∈ as, a < W) → (∀ a ∈ bs, a < W) → undig W as = undig W bs → as = bs
  | [], [], _, _, _, _ => rfl
  | a :: as, b :: bs, hl, h, h', e => by
    simp only [undig] at e
    have h1 := h a (by simp)
    have h2 := h' b (by simp)
    have e1 : a = b := by
      have q := congrArg (· % W) e
      simpa [Nat.add_mul_mod_self_left, Nat.mod_eq_of_lt h1, Nat.mod_eq_of_lt h2] using q
    have e2 : undig W as = undig W bs := by
      subst e1
      exact Nat.eq_of_mul_eq_mul_left hW (by omega)
    rw [e1, undig_inj W hW as bs (by simpa using hl) (fun c hc => h c (by simp [hc])) (fun c hc => h' c (by simp [hc])) e2]
theorem siegel (n k M : Nat) (hM : 1 ≤ M) (hn : n = k + 1) (eqs : List (List Int)) (hk : eqs.length = k) (hc : ∀ e ∈ eqs, ∀ a ∈ e, a.natAbs ≤ M) :
    ∃ y : List Int, y.length = n ∧ (∀ a ∈ y, a.natAbs ≤ (2 * n * M) ^ k) ∧ (∃ a ∈ y, a ≠ 0) ∧ ∀ e ∈ eqs, dI e y = 0 := by
  generalize hH : (2 * n * M) ^ k = H
  let f : Nat → Nat := fun i => undig (2 * (n * (M * H)) + 1) (eqs.map fun e => (dI e (digs n (H + 1) i) + (n * (M * H) : Nat)).toNat)
  have val : ∀ i, ∀ e ∈ eqs, (dI e (digs n (H + 1) i)).natAbs ≤ n * (M * H) := fun i e he => by
    have := dI_le M H e (digs n (H + 1) i) (hc e he) fun a ha => by
      have := digs_lt (H + 1) (by omega) n i a ha
      omega
    rwa [digs_len] at this
  have sm : ∀ i, ∀ a ∈ (eqs.map fun e => (dI e (digs n (H + 1) i) + (n * (M * H) : Nat)).toNat), a < 2 * (n * (M * H)) + 1 := fun i a ha => by
    obtain ⟨e, he, rfl⟩ := List.mem_map.mp ha
    have := val i e he
    omega
  have big : (2 * (n * (M * H)) + 1) ^ k < (H + 1) ^ n := by
    have h1 : 2 * (n * (M * H)) + 1 ≤ (2 * n * M) * (H + 1) := by
      have e : 2 * (n * (M * H)) = 2 * n * M * H := by grind
      rw [e, Nat.mul_add, Nat.mul_one]
      have : 1 ≤ 2 * n * M := Nat.le_trans hM (Nat.le_mul_of_pos_left M (by omega))
      omega
    have h2 := Nat.pow_le_pow_left h1 k
    rw [Nat.mul_pow, hH] at h2
    have h5 : (H + 1) ^ n = (H + 1) ^ k * (H + 1) := by rw [hn, Nat.pow_succ]
    rw [h5]
    have h3 : 0 < (H + 1) ^ k := Nat.pow_pos (by omega)
    have h4 : H * (H + 1) ^ k < (H + 1) ^ k * (H + 1) := by
      rw [Nat.mul_comm ((H + 1) ^ k)]
      exact Nat.mul_lt_mul_of_pos_right (by omega) h3
    omega
  obtain ⟨i, j, hij, hj, e⟩ := php ((2 * (n * (M * H)) + 1) ^ k) f fun i _ => by
    have := undig_lt _ (by omega) _ (sm i)
    rw [List.length_map, hk] at this
    exact this
  have e2 := undig_inj _ (by omega) _ _ (by simp) (sm i) (sm j) e
  refine ⟨List.zipWith (· - ·) (digs n (H + 1) j) (digs n (H + 1) i), by simp [digs_len], fun a ha => ?_, ?_, fun e he => ?_⟩
  · obtain ⟨q, hq, rfl⟩ := List.mem_iff_getElem.mp ha
    rw [List.getElem_zipWith]
    have q1 := digs_lt (H + 1) (by omega) n j _ (List.getElem_mem (by simp at hq; omega : q < (digs n (H + 1) j).length))
    have q2 := digs_lt (H + 1) (by omega) n i _ (List.getElem_mem (by simp at hq; omega : q < (digs n (H + 1) i).length))
    omega
  · apply Classical.byContradiction
    intro hz
    have : digs n (H + 1) j = digs n (H + 1) i := by
      apply List.ext_getElem
      · simp [digs_len]
      · intro q h1 h2
        have hm : (List.zipWith (· - ·) (digs n (H + 1) j) (digs n (H + 1) i))[q]'(by simp; omega) ∈ List.zipWith (· - ·) (digs n (H + 1) j) (digs n (H + 1) i) := List.getElem_mem _
        rw [List.getElem_zipWith] at hm
        have : (digs n (H + 1) j)[q] - (digs n (H + 1) i)[q] = 0 := by
          apply Classical.byContradiction
          intro hne
          exact hz ⟨_, hm, hne⟩
        omega
    have := digs_inj (H + 1) (by omega) n j i (by omega) (by omega) this
    omega
  · rw [dI_sub _ _ _ (by simp [digs_len])]
    have q := List.map_inj_left.mp e2 e he
    have v1 := val i e he
    have v2 := val j e he
    omega
end LP

namespace LP
def qs (xs : List Int) : List Rat := xs.map (Int.cast : Int → Rat)
def sysOf (B : Bo) : SolS := fun τ x => ∀ i, i < B.heads.length → x (B.heads.getD i 0) = dot (B.rows.getD i []) (τ :: B.tails.map x)
def objOf (g : List Rat) (ts : List Int) : ObjZ := fun τ x => dot g (τ :: ts.map x)
/-- a first board of whole numbers -/
structure IntB (M : Nat) (B : Bo) : Prop where
  m1 : 1 ≤ M
  nd : (B.heads ++ B.tails).Nodup
  rl : B.rows.length = B.heads.length
  rw' : ∀ row ∈ B.rows, row.length = B.tails.length + 1 ∧ ∃ r : List Int, row = qs r ∧ ∀ a ∈ r, a.natAbs ≤ M
def labOf (B : Bo) : List Int := B.heads ++ B.tails
theorem IntB.good {M B} (I : IntB M B) (h : B.goal.length = B.tails.length + 1) : Good (labOf B) (sysOf B) (objOf B.goal B.tails) B :=
  ⟨List.Perm.refl _, I.nd, I.rl, fun row h => (I.rw' row h).1, h, fun _ _ => Iff.rfl, fun _ _ _ => rfl⟩
theorem Good.reGoal {lab S z B} (G : Good lab S z B) {z' : ObjZ} {g : List Rat} (hg : g.length = B.tails.length + 1) (h : ∀ τ x, S τ x → z' τ x = dot g (τ :: B.tails.map x)) : Good lab S z' { B with goal := g } :=
  ⟨G.perm, G.nd, G.rl, G.rw', hg, G.sol, h⟩
def unI (n j : Nat) : List Int := (List.replicate n 0).set j 1
theorem qs_unI (n j : Nat) : qs (unI n j) = (zs n).set j 1 := by
  simp [qs, unI, zs, List.map_set]
theorem dot_comm : ∀ as xs : List Rat, dot as xs = dot xs as
  | [], xs => by rw [dot_nil_l, dot_nil_r]
  | a :: as, [] => rfl
  | a :: as, x :: xs => by
    rw [dot_cons, dot_cons, dot_comm as xs]
    grind
theorem dot_zset {n j : Nat} {xs : List Rat} (h : xs.length = n) (hj : j < n) : dot ((zs n).set j 1) xs = xs.getD j 0 := by
  rw [dot_set_l _ _ _ _ (by rw [zs_len, h]), if_pos (by omega), dot_comm, dot_zs, getD_zs]
  grind
theorem dot_smul (c : Rat) : ∀ as xs : List Rat, dot as (xs.map (c * ·)) = c * dot as xs
  | [], xs => by rw [dot_nil_l, dot_nil_l]; grind
  | a :: as, [] => by rw [List.map_nil, dot_nil_r]; grind
  | a :: as, x :: xs => by
    rw [List.map_cons, dot_cons, dot_cons, dot_smul c as xs]
    grind
section
variable {M : Nat} {B0 : Bo}
/-- a label's form -/
theorem IntB.form (I : IntB M B0) {l : Int} (hl : l ∈ labOf B0) : ∃ c : List Int, c.length = B0.tails.length + 1 ∧ (∀ a ∈ c, a.natAbs ≤ M) ∧ ∀ τ x, sysOf B0 τ x → x l = dot (qs c) (τ :: B0.tails.map x) := by
  by_cases ht : l ∈ B0.tails
  · have hj := List.idxOf_lt_length_iff.mpr ht
    refine ⟨unI (B0.tails.length + 1) (B0.tails.idxOf l + 1), by simp [unI], fun a ha => ?_, fun τ x _ => ?_⟩
    · have := I.m1
      rcases List.mem_or_eq_of_mem_set ha with q | q
      · have := (List.mem_replicate.mp q).2
        omega
      · omega
    · rw [qs_unI, dot_zset (by simp) (by omega), List.getD_cons_succ, getD_map_lt x _ _ 0 0 hj, getD_idxOf ht]
  · have hh : l ∈ B0.heads := by
      rcases List.mem_append.mp hl with q | q
      · exact q
      · exact absurd q ht
    have hi := List.idxOf_lt_length_iff.mpr hh
    obtain ⟨h1, r, h2, h3⟩ := I.rw' _ (getD_mem (d := []) (by rw [I.rl]; exact hi))
    refine ⟨r, ?_, h3, fun τ x hS => ?_⟩
    · rw [h2] at h1
      simpa [qs] using h1
    · rw [← h2]
      have := hS _ hi
      rw [getD_idxOf hh] at this
      exact this
theorem forms (I : IntB M B0) : ∀ ls : List Int, (∀ l ∈ ls, l ∈ labOf B0) → ∃ cs : List (List Int), cs.length = ls.length ∧ (∀ c ∈ cs, c.length = B0.tails.length + 1 ∧ ∀ a ∈ c, a.natAbs ≤ M) ∧
    ∀ τ x, sysOf B0 τ x → ∀ j, j < ls.length → x (ls.getD j 0) = dot (qs (cs.getD j [])) (τ :: B0.tails.map x)
  | [], _ => ⟨[], rfl, by simp, by simp⟩
  | l :: ls, h => by
    obtain ⟨c, h1, h2, h3⟩ := I.form (h l (by simp))
    obtain ⟨cs, k1, k2, k3⟩ := forms I ls fun m hm => h m (by simp [hm])
    refine ⟨c :: cs, by simp [k1], fun d hd => ?_, fun τ x hS j hj => ?_⟩
    · rcases List.mem_cons.mp hd with e | e
      · rw [e]; exact ⟨h1, h2⟩
      · exact k2 d e
    · cases j with
      | zero => simpa using h3 τ x hS
      | succ j => simpa using k3 τ x hS j (by simpa using hj)
def hB (t M : Nat) : Nat := (2 * (t + 1) * M) ^ t
def kB (t M : Nat) : Nat := (t + 1) * (M * hB t M)
theorem mem_eraseIdx_of {α : Type} {xs : List α} {j i : Nat} (h : i < xs.length) (hne : i ≠ j) : xs[i] ∈ xs.eraseIdx j := by
  rw [List.mem_eraseIdx_iff_getElem?]
  exact ⟨i, hne, List.getElem?_eq_getElem h⟩
theorem col (I : IntB M B0) {z B} (G : Good (labOf B0) (sysOf B0) z B) (ht : B.tails.length = B0.tails.length) {j : Nat} (hj : j ≤ B.tails.length) {τ' : Rat} {xs' : List Rat} (hv : τ' :: xs' = (zs (B.tails.length + 1)).set j 1) :
    ∃ D : Int, D ≠ 0 ∧ D.natAbs ≤ kB B.tails.length M ∧ ∃ u : Int → Int, ∀ l ∈ labOf B0, (u l).natAbs ≤ kB B.tails.length M ∧ fill B τ' xs' l = (u l : Rat) / (D : Rat) := by
  generalize hk : B.tails.length = t at *
  obtain ⟨cs, c1, c2, c3⟩ := forms I B.tails fun l hl => (G.mem l).mpr (.inr hl)
  have c1' : cs.length = t := by rw [c1, hk]
  have I1 := I.m1
  -- all forms of the board's tails, the constant ahead
  have hall : ∀ e ∈ unI (t + 1) 0 :: cs, e.length = t + 1 ∧ ∀ a ∈ e, a.natAbs ≤ M := fun e he => by
    rcases List.mem_cons.mp he with q | q
    · subst q
      refine ⟨by simp [unI], fun a ha => ?_⟩
      rcases List.mem_or_eq_of_mem_set ha with q | q
      · have := (List.mem_replicate.mp q).2
        omega
      · omega
    · rw [ht]; exact c2 e q
  obtain ⟨y, y1, y2, ⟨a0, ya, y3⟩, y4⟩ := siegel (t + 1) t M I1 rfl ((unI (t + 1) 0 :: cs).eraseIdx j) (by rw [List.length_eraseIdx_of_lt (by simp [c1']; omega)]; simp [c1']) fun e he => (hall e (List.mem_of_mem_eraseIdx he)).2
  -- the solution
  cases y with
  | nil => simp at y1
  | cons τ yf =>
    have yl : yf.length = B0.tails.length := by simp at y1; omega
    have G0 : Good (labOf B0) (sysOf B0) (objOf (zs (B0.tails.length + 1)) B0.tails) { B0 with goal := zs (B0.tails.length + 1) } :=
      ⟨List.Perm.refl _, I.nd, I.rl, fun row h => (I.rw' row h).1, by simp [zs], fun _ _ => Iff.rfl, fun _ _ _ => rfl⟩
    let X : Int → Rat := fill { B0 with goal := zs (B0.tails.length + 1) } (τ : Rat) (qs yf)
    have ql : (qs yf).length = B0.tails.length := by simpa [qs] using yl
    have hS : sysOf B0 (τ : Rat) X := G0.fill_S ql
    have hT : B0.tails.map X = qs yf := G0.fill_ts ql
    have hy : ((τ : Rat) :: B0.tails.map X) = qs (τ :: yf) := by rw [hT]; rfl
    -- whole numbers
    have whole : ∀ l ∈ labOf B0, ∃ i : Int, i.natAbs ≤ kB t M ∧ X l = (i : Rat) := fun l hl => by
      obtain ⟨c, d1, d2, d3⟩ := I.form hl
      refine ⟨dI c (τ :: yf), ?_, ?_⟩
      · have := dI_le M (hB t M) c (τ :: yf) d2 (fun a ha => by have := y2 a ha; unfold hB; exact this)
        simp only [List.length_cons, yl, ← ht] at this
        exact this
      · rw [d3 _ _ hS, hy, dI_cast]; rfl
    obtain ⟨u, hu⟩ : ∃ u : Int → Int, ∀ l ∈ labOf B0, (u l).natAbs ≤ kB t M ∧ X l = (u l : Rat) :=
      ⟨fun l => if h : l ∈ labOf B0 then Classical.choose (whole l h) else 0, fun l h => by simp only [dif_pos h]; exact Classical.choose_spec (whole l h)⟩
    -- the board's tails at it
    have tv : ∀ i, i < t + 1 → ((τ : Rat) :: B.tails.map X).getD i 0 = ((dI ((unI (t + 1) 0 :: cs).getD i []) (τ :: yf) : Int) : Rat) := fun i hi => by
      rw [dI_cast]
      show _ = dot _ (qs (τ :: yf))
      cases i with
      | zero =>
        show (τ : Rat) = dot (qs (unI (t + 1) 0)) (qs (τ :: yf))
        rw [qs_unI, dot_zset (by simp [qs, y1] at *; omega) (by omega)]
        rfl
      | succ i =>
        have hi' : i < B.tails.length := by omega
        rw [List.getD_cons_succ, getD_map_lt X _ _ 0 0 hi', c3 _ _ hS i hi', hy]
        rfl
    have tz : ∀ i, i < t + 1 → i ≠ j → ((τ : Rat) :: B.tails.map X).getD i 0 = 0 := fun i hi hne => by
      rw [tv i hi]
      have hi2 : i < (unI (t + 1) 0 :: cs).length := by simp [c1']; omega
      rw [getD_eq hi2, y4 _ (mem_eraseIdx_of hi2 hne)]
      rfl
    have hlen : ((τ : Rat) :: B.tails.map X).length = t + 1 := by simp [hk]
    -- the number at the place
    obtain ⟨D, hD1, hD2⟩ : ∃ D : Int, D.natAbs ≤ kB t M ∧ ((τ : Rat) :: B.tails.map X).getD j 0 = (D : Rat) := by
      refine ⟨_, ?_, tv j (by omega)⟩
      have := dI_le M (hB t M) ((unI (t + 1) 0 :: cs).getD j []) (τ :: yf) (hall _ (getD_mem (by simp [c1']; omega))).2 (fun a ha => by have := y2 a ha; unfold hB; exact this)
      simp only [List.length_cons, yl, ← ht] at this
      exact this
    have vec : ((τ : Rat) :: B.tails.map X) = (τ' :: xs').map ((D : Rat) * ·) := by
      rw [hv]
      apply List.ext_getElem
      · simp [hk, zs]
      · intro i h1 h2
        have h1' : i < t + 1 := by rw [hlen] at h1; exact h1
        rw [← getD_eq (d := 0) h1, List.getElem_map]
        have h3 : i < ((zs (t + 1)).set j 1).length := by simpa using h2
        rw [← getD_eq (d := 0) h3, getD_set]
        by_cases e : j = i
        · rw [if_pos ⟨e, by simp [zs]; omega⟩, ← e, hD2]
          grind
        · rw [if_neg (fun q => e q.1), getD_zs, tz i h1' (Ne.symm e)]
          grind
    have hD0 : D ≠ 0 := fun e => by
      -- all is nought
      have z0 : ∀ i, i < t + 1 → ((τ : Rat) :: B.tails.map X).getD i 0 = 0 := fun i hi => by
        by_cases q : i = j
        · rw [q, hD2, e]; rfl
        · exact tz i hi q
      have t0 : (τ : Rat) = 0 := z0 0 (by omega)
      have S0 : sysOf B0 (τ : Rat) (fun _ => 0) := fun i hi => by
        have : (τ : Rat) :: B0.tails.map (fun _ => (0 : Rat)) = zs (B0.tails.length + 1) := by
          rw [t0]
          simp only [zs, List.replicate_succ, List.map_const']
        rw [this, dot_zs]
      have all0 := G.uniq hS S0 fun l hl => by
        have hi : B.tails.idxOf l < B.tails.length := List.idxOf_lt_length_iff.mpr hl
        have := z0 (B.tails.idxOf l + 1) (by omega)
        rw [List.getD_cons_succ, getD_map_lt X _ _ 0 0 hi, getD_idxOf hl] at this
        exact this
      have : ∀ a ∈ (τ :: yf : List Int), a = 0 := fun a ha => by
        rcases List.mem_cons.mp ha with q | q
        · have : ((a : Int) : Rat) = ((0 : Int) : Rat) := by rw [q]; exact t0
          exact Rat.intCast_inj.mp this
        · have h1 : (a : Rat) ∈ qs yf := List.mem_map.mpr ⟨a, q, rfl⟩
          rw [← hT] at h1
          obtain ⟨l, hl, e2⟩ := List.mem_map.mp h1
          have h2 : X l = 0 := all0 l (List.mem_append.mpr (.inr hl))
          have : ((a : Int) : Rat) = ((0 : Int) : Rat) := by rw [← e2]; exact h2
          exact Rat.intCast_inj.mp this
      exact y3 (this a0 ya)
    have hDq : (D : Rat) ≠ 0 := fun e => hD0 (by
      have : ((D : Int) : Rat) = ((0 : Int) : Rat) := e
      exact Rat.intCast_inj.mp this)
    refine ⟨D, hD0, hD1, u, fun l hl => ⟨(hu l hl).1, ?_⟩⟩
    have key : X l = D * fill B τ' xs' l := by
      by_cases hlt : l ∈ B.tails
      · have hi : B.tails.idxOf l < B.tails.length := List.idxOf_lt_length_iff.mpr hlt
        have q := congrArg (fun v : List Rat => v.getD (B.tails.idxOf l + 1) 0) vec
        have hx : xs'.length = t := by
          have := congrArg List.length hv
          simpa [zs] using this
        simp only [List.map_cons, List.getD_cons_succ] at q
        rw [getD_map_lt X _ _ 0 0 hi, getD_map_lt _ _ _ _ 0 (by omega), getD_idxOf hlt] at q
        rw [q]
        unfold fill
        rw [if_pos hlt]
      · have hh : l ∈ B.heads := by
          rcases (G.mem l).mp hl with q | q
          · exact q
          · exact absurd q hlt
        have hi := List.idxOf_lt_length_iff.mpr hh
        have q := (G.sol _ _).mp hS _ hi
        rw [getD_idxOf hh, vec, dot_smul] at q
        rw [q]
        unfold fill
        rw [if_neg hlt]
    rw [← (hu l hl).2, key]
    grind
end
end LP

namespace LP
/-! ### a desk's boards -/
abbrev Lim := List Int × Int
def slk (n m : Nat) : List Int := (List.range m).map fun k : Nat => 2 * (n : Int) + 1 + (k : Int)
def amt (n : Nat) : List Int := (List.range (2 * n)).map fun k : Nat => (k : Int) + 1
def diff (n : Nat) (x : Int → Rat) : List Rat := (List.range n).map fun j : Nat => x ((j : Int) + 1) - x ((n : Int) + (j : Int) + 1)
def rowI (l : Lim) : List Int := l.2 :: (l.1.map (fun i => -i) ++ l.1)
def firstB (n : Nat) (L : List Lim) : Bo := { heads := slk n L.length, tails := amt n, rows := L.map fun l => qs (rowI l), goal := zs (2 * n + 1) }
def helpB (n : Nat) (L : List Lim) : Bo := { heads := slk n L.length, tails := amt n ++ [0], rows := L.map fun l => qs (rowI l) ++ [1], goal := zs (2 * n + 1) ++ [-1] }
def Wf (n : Nat) (L : List Lim) : Prop := ∀ l ∈ L, l.1.length = n
theorem dot_app : ∀ (as xs bs ys : List Rat), as.length = xs.length → dot (as ++ bs) (xs ++ ys) = dot as xs + dot bs ys
  | [], [], bs, ys, _ => by simp only [List.nil_append, dot_nil_l]; grind
  | a :: as, x :: xs, bs, ys, h => by
    rw [List.cons_append, List.cons_append, dot_cons, dot_cons, dot_app as xs bs ys (by simpa using h)]
    grind
theorem dot_neg_l : ∀ (as : List Int) (xs : List Rat), dot (qs (as.map fun i => -i)) xs = -dot (qs as) xs
  | [], xs => by simp [qs, dot_nil_l]
  | a :: as, [] => by simp [dot_nil_r]
  | a :: as, x :: xs => by
    have := dot_neg_l as xs
    simp only [qs, List.map_cons, dot_cons, Rat.intCast_neg] at this ⊢
    rw [this]
    grind
theorem dot_sub_r : ∀ (as xs ys : List Rat), xs.length = ys.length → dot as (List.zipWith (· - ·) xs ys) = dot as xs - dot as ys
  | [], xs, ys, _ => by simp only [dot_nil_l]; grind
  | a :: as, [], [], _ => by simp only [List.zipWith_nil_left, dot_nil_r]; grind
  | a :: as, x :: xs, y :: ys, h => by
    rw [List.zipWith_cons_cons, dot_cons, dot_cons, dot_cons, dot_sub_r as xs ys (by simpa using h)]
    grind
theorem amt_map (n : Nat) (x : Int → Rat) : (amt n).map x = (List.range n).map (fun j : Nat => x ((j : Int) + 1)) ++ (List.range n).map (fun j : Nat => x ((n : Int) + (j : Int) + 1)) := by
  unfold amt
  rw [show 2 * n = n + n by omega, List.range_add]
  simp [List.map_map, Function.comp_def]
theorem diff_zip (n : Nat) (x : Int → Rat) : diff n x = List.zipWith (· - ·) ((List.range n).map (fun j : Nat => x ((j : Int) + 1))) ((List.range n).map (fun j : Nat => x ((n : Int) + (j : Int) + 1))) := by
  unfold diff
  rw [List.zipWith_map]
  simp
theorem diff_len (n : Nat) (x : Int → Rat) : (diff n x).length = n := by simp [diff]
theorem row_dot {n : Nat} {l : Lim} (h : l.1.length = n) (τ : Rat) (x : Int → Rat) : dot (qs (rowI l)) (τ :: (amt n).map x) = l.2 * τ - dot (qs l.1) (diff n x) := by
  have e : qs (rowI l) = (l.2 : Rat) :: (qs (l.1.map fun i => -i) ++ qs l.1) := by simp [qs, rowI]
  rw [e, dot_cons, amt_map, dot_app _ _ _ _ (by simp [qs, h]), dot_neg_l, diff_zip, dot_sub_r _ _ _ (by simp)]
  grind
def S1 (n : Nat) (L : List Lim) : SolS := fun τ x => (slk n L.length).map x = L.map fun l => l.2 * τ - dot (qs l.1) (diff n x)
def Sh (n : Nat) (L : List Lim) : SolS := fun τ x => (slk n L.length).map x = L.map fun l => l.2 * τ - dot (qs l.1) (diff n x) + x 0
theorem slk_len (n m : Nat) : (slk n m).length = m := by simp [slk]
theorem slk_getD (n m k : Nat) (h : k < m) : (slk n m).getD k 0 = 2 * (n : Int) + 1 + (k : Int) := by
  unfold slk
  rw [getD_map_lt _ _ _ _ 0 (by simpa using h)]
  simp [List.getD, h]
theorem eq_map_iff {α : Type} {xs : List Int} {ys : List α} {f : Int → Rat} {g : α → Rat} (d : α) (h : xs.length = ys.length) : xs.map f = ys.map g ↔ ∀ i, i < xs.length → f (xs.getD i 0) = g (ys.getD i d) := by
  constructor
  · intro e i hi
    have this : (xs.map f).getD i 0 = (ys.map g).getD i 0 := by rw [e]
    rwa [getD_map_lt f _ _ _ 0 hi, getD_map_lt g _ _ _ d (by omega)] at this
  · intro e
    apply List.ext_getElem
    · simp [h]
    · intro i h1 h2
      have hi : i < xs.length := by simpa using h1
      have := e i hi
      rw [getD_eq hi, getD_eq (by omega : i < ys.length)] at this
      simpa using this
theorem sys1 {n : Nat} {L : List Lim} (w : Wf n L) (τ : Rat) (x : Int → Rat) : sysOf (firstB n L) τ x ↔ S1 n L τ x := by
  unfold S1
  rw [eq_map_iff ([], 0) (by rw [slk_len])]
  unfold sysOf firstB
  simp only
  constructor
  · intro h i hi
    have hi' : i < L.length := by rw [slk_len] at hi; exact hi
    have := h i hi
    rwa [getD_map_lt _ _ _ _ ([], 0) hi', row_dot (w _ (getD_mem hi'))] at this
  · intro h i hi
    have hi' : i < L.length := by rw [slk_len] at hi; exact hi
    have := h i hi
    rwa [getD_map_lt _ _ _ _ ([], 0) hi', row_dot (w _ (getD_mem hi'))]
theorem sysh {n : Nat} {L : List Lim} (w : Wf n L) (τ : Rat) (x : Int → Rat) : sysOf (helpB n L) τ x ↔ Sh n L τ x := by
  have key : ∀ i, i < L.length → dot (qs (rowI (L.getD i ([], 0))) ++ [1]) (τ :: (amt n ++ [0]).map x) = (L.getD i ([], 0)).2 * τ - dot (qs (L.getD i ([], 0)).1) (diff n x) + x 0 := fun i hi => by
    have hw := w _ (getD_mem (d := ([], 0)) hi)
    rw [List.map_append, ← List.cons_append, dot_app _ _ _ _ (by simp only [qs, rowI, amt, List.length_map, List.length_cons, List.length_append, hw, List.length_range]; omega), row_dot hw]
    simp [dot]
    grind
  unfold Sh
  rw [eq_map_iff ([], 0) (by rw [slk_len])]
  unfold sysOf helpB
  simp only
  constructor
  · intro h i hi
    have hi' : i < L.length := by rw [slk_len] at hi; exact hi
    have := h i hi
    rwa [getD_map_lt _ _ _ _ ([], 0) hi', key i hi'] at this
  · intro h i hi
    have hi' : i < L.length := by rw [slk_len] at hi; exact hi
    have := h i hi
    rwa [getD_map_lt _ _ _ _ ([], 0) hi', key i hi']
theorem amt_mem {n : Nat} {l : Int} : l ∈ amt n ↔ 1 ≤ l ∧ l ≤ 2 * n := by
  unfold amt
  rw [List.mem_map]
  constructor
  · rintro ⟨k, hk, rfl⟩
    simp at hk
    omega
  · intro h
    exact ⟨(l - 1).toNat, by simp; omega, by omega⟩
theorem slk_mem {n m : Nat} {l : Int} : l ∈ slk n m ↔ 2 * n + 1 ≤ l ∧ l < 2 * n + 1 + m := by
  unfold slk
  rw [List.mem_map]
  constructor
  · rintro ⟨k, hk, rfl⟩
    simp at hk
    omega
  · intro h
    exact ⟨(l - (2 * n + 1)).toNat, by simp; omega, by omega⟩
theorem nodup_map_range (f : Nat → Int) (hf : ∀ i j, f i = f j → i = j) (m : Nat) : ((List.range m).map f).Nodup := by
  unfold List.Nodup
  rw [List.pairwise_map]
  exact List.nodup_range.imp fun h e => h (hf _ _ e)
theorem slk_nd (n m : Nat) : (slk n m).Nodup := nodup_map_range _ (fun i j h => by omega) _
theorem amt_nd (n : Nat) : (amt n).Nodup := nodup_map_range _ (fun i j h => by omega) _
theorem lab1_nd (n m : Nat) : (slk n m ++ amt n).Nodup := by
  rw [List.nodup_append]
  refine ⟨slk_nd n m, amt_nd n, fun a ha b hb e => ?_⟩
  rw [slk_mem] at ha
  rw [amt_mem] at hb
  omega
theorem labh_nd (n m : Nat) : (slk n m ++ (amt n ++ [0])).Nodup := by
  rw [List.nodup_append]
  refine ⟨slk_nd n m, ?_, fun a ha b hb e => ?_⟩
  · rw [List.nodup_append]
    refine ⟨amt_nd n, by simp, fun a ha b hb e => ?_⟩
    rw [amt_mem] at ha
    simp at hb
    omega
  · rw [slk_mem] at ha
    rw [List.mem_append, amt_mem] at hb
    simp at hb
    omega
def LimB (M : Nat) (L : List Lim) : Prop := ∀ l ∈ L, (∀ a ∈ l.1, a.natAbs ≤ M) ∧ l.2.natAbs ≤ M
theorem int1 {M n : Nat} {L : List Lim} (hM : 1 ≤ M) (w : Wf n L) (hL : LimB M L) : IntB M (firstB n L) := by
  refine ⟨hM, lab1_nd n _, by simp [firstB, slk_len], fun row h => ?_⟩
  obtain ⟨l, hl, rfl⟩ := List.mem_map.mp h
  refine ⟨by simp [qs, rowI, firstB, amt, w l hl]; omega, rowI l, rfl, fun a ha => ?_⟩
  unfold rowI at ha
  simp only [List.mem_cons, List.mem_append, List.mem_map] at ha
  rcases ha with e | ⟨i, hi, e⟩ | e
  · rw [e]; exact (hL l hl).2
  · rw [← e, Int.natAbs_neg]; exact (hL l hl).1 i hi
  · exact (hL l hl).1 a e
theorem inth {M n : Nat} {L : List Lim} (hM : 1 ≤ M) (w : Wf n L) (hL : LimB M L) : IntB M (helpB n L) := by
  refine ⟨hM, labh_nd n _, by simp [helpB, slk_len], fun row h => ?_⟩
  obtain ⟨l, hl, rfl⟩ := List.mem_map.mp h
  refine ⟨by simp [qs, rowI, helpB, amt, w l hl]; omega, rowI l ++ [1], by simp [qs], fun a ha => ?_⟩
  unfold rowI at ha
  simp only [List.mem_cons, List.mem_append, List.mem_map, List.cons_append, List.append_assoc, List.mem_nil_iff, or_false] at ha
  rcases ha with e | ⟨i, hi, e⟩ | e | e
  · rw [e]; exact (hL l hl).2
  · rw [← e, Int.natAbs_neg]; exact (hL l hl).1 i hi
  · exact (hL l hl).1 a e
  · omega
/-! ### sums over labels -/
def sm (f : Int → Rat) : List Int → Rat
  | [] => 0
  | l :: ls => f l + sm f ls
theorem sm_app (f : Int → Rat) : ∀ as bs, sm f (as ++ bs) = sm f as + sm f bs
  | [], bs => by simp only [List.nil_append, sm]; grind
  | a :: as, bs => by simp only [List.cons_append, sm]; rw [sm_app f as bs]; grind
theorem sm_perm (f : Int → Rat) {as bs : List Int} (h : as.Perm bs) : sm f as = sm f bs := by
  induction h with
  | nil => rfl
  | cons a _ ih => simp only [sm]; rw [ih]
  | swap a b _ => simp only [sm]; grind
  | trans _ _ h1 h2 => rw [h1, h2]
theorem sm_congr {f g : Int → Rat} : ∀ {as : List Int}, (∀ a ∈ as, f a = g a) → sm f as = sm g as
  | [], _ => rfl
  | a :: as, h => by simp only [sm]; rw [h a (by simp), sm_congr fun b hb => h b (by simp [hb])]
theorem sm_zero {f : Int → Rat} : ∀ {as : List Int}, (∀ a ∈ as, f a = 0) → sm f as = 0
  | [], _ => rfl
  | a :: as, h => by simp only [sm]; rw [h a (by simp), sm_zero fun b hb => h b (by simp [hb])]; grind
theorem sm_dot (a b : Int → Rat) : ∀ ls : List Int, sm (fun l => a l * b l) ls = dot (ls.map a) (ls.map b)
  | [] => rfl
  | l :: ls => by simp only [sm, List.map_cons, dot_cons]; rw [sm_dot a b ls]
theorem dot_sm (x : Int → Rat) : ∀ (ts : List Int) (g : List Rat), ts.Nodup → dot g (ts.map x) = sm (fun l => g.getD (ts.idxOf l) 0 * x l) ts
  | [], g, _ => by rw [List.map_nil, dot_nil_r]; rfl
  | t :: ts, [], h => by
    rw [dot_nil_l, sm_zero fun a _ => by simp]
  | t :: ts, a :: g, h => by
    have hd := List.nodup_cons.mp h
    simp only [List.map_cons, dot_cons, sm]
    rw [dot_sm x ts g hd.2]
    have e0 : (t :: ts).idxOf t = 0 := by simp
    rw [e0]
    congr 1
    apply sm_congr
    intro l hl
    have hne : t ≠ l := fun e => hd.1 (e ▸ hl)
    have : (t :: ts).idxOf l = ts.idxOf l + 1 := by
      rw [List.idxOf_cons, show (t == l) = false from by simpa using hne]
      rfl
    rw [this, List.getD_cons_succ]
/-- the goal's number of a label -/
def cof (B : Bo) (l : Int) : Rat := if l ∈ B.tails then at' B.goal (B.tails.idxOf l) else 0
theorem Good.obj_sm {lab S z B} (G : Good lab S z B) (τ : Rat) (x : Int → Rat) (h : S τ x) : z τ x = B.goal.getD 0 0 * τ + sm (fun l => cof B l * x l) lab := by
  rw [G.obj τ x h]
  cases hg : B.goal with
  | nil => have := G.gl; rw [hg] at this; simp at this
  | cons g0 g =>
    rw [dot_cons, dot_sm x _ _ G.tn, ← sm_perm _ G.perm, sm_app, sm_zero (as := B.heads) (fun l hl => by
      have : cof B l = 0 := by unfold cof; rw [if_neg (G.nb hl)]
      rw [this]; grind)]
    have : sm (fun l => g.getD (B.tails.idxOf l) 0 * x l) B.tails = sm (fun l => cof B l * x l) B.tails := sm_congr fun l hl => by
      unfold cof at'
      rw [if_pos hl, hg, List.getD_cons_succ]
    rw [this]
    simp
    grind
def colq (L : List Lim) (j : Nat) : List Rat := L.map fun l => ((l.1.getD j 0 : Int) : Rat)
def bq (L : List Lim) : List Rat := L.map fun l => (l.2 : Rat)
/-- what the goal loses by each limit -/
def prices (n : Nat) (L : List Lim) (B : Bo) : List Rat := (slk n L.length).map fun l => -cof B l
theorem dot_map_neg (f : Int → Rat) (xs : List Rat) : ∀ ls : List Int, dot (ls.map fun l => -f l) xs = -dot (ls.map f) xs := by
  induction xs with
  | nil => intro ls; rw [dot_nil_r, dot_nil_r]; grind
  | cons x xs ih =>
    intro ls
    cases ls with
    | nil => simp [dot_nil_l]
    | cons l ls =>
      simp only [List.map_cons, dot_cons]
      rw [ih]
      grind
theorem dot_map_neg_r {α : Type} (f : α → Rat) : ∀ (as : List Rat) (ls : List α), dot as (ls.map fun l => -f l) = -dot as (ls.map f)
  | [], ls => by rw [dot_nil_l, dot_nil_l]; grind
  | a :: as, [] => by simp [dot_nil_r]
  | a :: as, l :: ls => by
    simp only [List.map_cons, dot_cons]
    rw [dot_map_neg_r f as ls]
    grind
theorem diff_unit_u {n j : Nat} (h : j < n) : diff n (fun l => if l = (j : Int) + 1 then 1 else 0) = (zs n).set j 1 := by
  apply List.ext_getElem
  · simp [diff, zs]
  · intro i h1 h2
    have hi : i < n := by simpa [diff] using h1
    simp only [diff, List.getElem_map, List.getElem_range, List.getElem_set, zs, List.getElem_replicate]
    by_cases e : j = i
    · subst e
      rw [if_pos rfl, if_pos rfl, if_neg (by omega)]
      grind
    · rw [if_neg (by omega), if_neg (by omega), if_neg e]
      grind
theorem diff_unit_v {n j : Nat} (h : j < n) : diff n (fun l => if l = (n : Int) + (j : Int) + 1 then 1 else 0) = (zs n).set j (-1) := by
  apply List.ext_getElem
  · simp [diff, zs]
  · intro i h1 h2
    have hi : i < n := by simpa [diff] using h1
    simp only [diff, List.getElem_map, List.getElem_range, List.getElem_set, zs, List.getElem_replicate]
    by_cases e : j = i
    · subst e
      rw [if_pos rfl, if_pos rfl, if_neg (by omega)]
      grind
    · rw [if_neg (by omega), if_neg (by omega), if_neg e]
      grind
theorem diff_congr {n : Nat} {x y : Int → Rat} (h : ∀ l ∈ amt n, x l = y l) : diff n x = diff n y := by
  unfold diff
  apply List.map_congr_left
  intro j hj
  simp at hj
  rw [h _ (amt_mem.mpr ⟨by omega, by omega⟩), h _ (amt_mem.mpr ⟨by omega, by omega⟩)]
/-- a goal's certificate: all places at most nought -/
theorem cert {n : Nat} {L : List Lim} {lab : List Int} {S : SolS} {z : ObjZ} {B : Bo} {g : List Int} {ex : List Int} (w : Wf n L) (hg : g.length = n) (G : Good lab S z B)
    (hp : lab.Perm (slk n L.length ++ (amt n ++ ex))) (hex : ∀ l ∈ ex, l ∉ amt n)
    (test : ∀ τ f, (∀ l ∈ ex, f l = 0) → ∃ x, S τ x ∧ (∀ l ∈ amt n ++ ex, x l = f l) ∧ (slk n L.length).map x = (L.map fun l => l.2 * τ - dot (qs l.1) (diff n f)) ∧ z τ x = dot (qs g) (diff n f))
    (top : ∀ j, j < B.tails.length → at' B.goal j ≤ 0) :
    (∀ p ∈ prices n L B, 0 ≤ p) ∧ (∀ j, j < n → dot (prices n L B) (colq L j) = g.getD j 0) ∧ dot (prices n L B) (bq L) = B.goal.getD 0 0 := by
  have cle : ∀ l, cof B l ≤ 0 := fun l => by
    unfold cof
    split
    · rename_i h
      exact top _ (List.idxOf_lt_length_iff.mpr h)
    · exact Rat.le_refl
  have main : ∀ τ f, (∀ l ∈ ex, f l = 0) → dot (qs g) (diff n f) = B.goal.getD 0 0 * τ - dot (prices n L B) (L.map fun l => l.2 * τ - dot (qs l.1) (diff n f)) + sm (fun l => cof B l * f l) (amt n) := fun τ f hf => by
    obtain ⟨x, hS, h1, h2, h3⟩ := test τ f hf
    rw [← h3, G.obj_sm τ x hS, sm_perm _ hp, sm_app, sm_app]
    rw [sm_congr (as := ex) (g := fun _ => 0) (fun l hl => by rw [h1 l (by simp [hl]), hf l hl]; grind), sm_zero (as := ex) (fun _ _ => rfl), sm_dot, h2]
    rw [sm_congr (as := amt n) (g := fun l => cof B l * f l) (fun l hl => by rw [h1 l (by simp [hl])])]
    unfold prices
    rw [dot_map_neg]
    grind
  have dz : diff n (fun _ => 0) = zs n := by
    unfold diff
    have : (0 : Rat) - 0 = 0 := by grind
    simp only [this, List.map_const', List.length_range, zs]
  refine ⟨fun p hp => ?_, fun j hj => ?_, ?_⟩
  · obtain ⟨l, _, rfl⟩ := List.mem_map.mp hp
    have := cle l
    grind
  · have e1 := main 0 (fun l => if l = (j : Int) + 1 then 1 else 0) (fun l hl => by
      rw [if_neg]
      intro e
      exact hex l hl (by rw [e]; exact amt_mem.mpr ⟨by omega, by omega⟩))
    have e2 := main 0 (fun l => if l = (n : Int) + (j : Int) + 1 then 1 else 0) (fun l hl => by
      rw [if_neg]
      intro e
      exact hex l hl (by rw [e]; exact amt_mem.mpr ⟨by omega, by omega⟩))
    rw [diff_unit_u hj] at e1
    rw [diff_unit_v hj] at e2
    have dgu : ∀ c : List Int, c.length = n → dot (qs c) ((zs n).set j 1) = c.getD j 0 := fun c hc => by
      rw [dot_comm, dot_zset (by simp [qs, hc]) hj]
      unfold qs
      rw [getD_map_lt _ _ _ _ 0 (by omega)]
    have dgv : ∀ c : List Int, c.length = n → dot (qs c) ((zs n).set j (-1)) = -(c.getD j 0 : Rat) := fun c hc => by
      rw [dot_set_r _ _ _ _ (by simp [qs, zs, hc]), if_pos (by rw [zs_len]; exact hj), dot_zs, getD_zs]
      unfold qs
      rw [getD_map_lt _ _ _ _ 0 (by omega)]
      grind
    have m1 : (L.map fun l => (l.2 : Rat) * 0 - dot (qs l.1) ((zs n).set j 1)) = L.map fun l => -((l.1.getD j 0 : Int) : Rat) := List.map_congr_left fun l hl => by
      rw [dgu _ (w l hl)]; grind
    have m2 : (L.map fun l => (l.2 : Rat) * 0 - dot (qs l.1) ((zs n).set j (-1))) = colq L j := List.map_congr_left fun l hl => by
      rw [dgv _ (w l hl)]; grind
    rw [m1, dgu _ hg, dot_map_neg_r] at e1
    rw [m2, dgv _ hg] at e2
    have one : ∀ a ∈ amt n, sm (fun l => cof B l * if l = a then 1 else 0) (amt n) = cof B a := fun a ha => by
      have gen : ∀ ls : List Int, ls.Nodup → sm (fun l => cof B l * if l = a then 1 else 0) ls = if a ∈ ls then cof B a else 0 := fun ls => by
        induction ls with
        | nil => intro _; simp [sm]
        | cons b ls ih =>
          intro hd
          have hd := List.nodup_cons.mp hd
          simp only [sm]
          rw [ih hd.2]
          by_cases e : b = a
          · subst e
            rw [if_pos rfl, if_neg hd.1, if_pos (by simp)]
            grind
          · rw [if_neg e]
            by_cases q : a ∈ ls
            · rw [if_pos q, if_pos (by simp [q])]; grind
            · rw [if_neg q, if_neg (by simp [q, Ne.symm e])]; grind
      rw [gen _ (amt_nd n), if_pos ha]
    rw [one _ (amt_mem.mpr ⟨by omega, by omega⟩)] at e1 e2
    have c1 := cle ((j : Int) + 1)
    have c2 := cle ((n : Int) + (j : Int) + 1)
    have e3 : dot (prices n L B) (L.map fun l => ((l.1.getD j 0 : Int) : Rat)) = dot (prices n L B) (colq L j) := rfl
    rw [e3] at e1
    grind
  · have e := main 1 (fun _ => 0) (fun _ _ => rfl)
    rw [dz, dot_zs, sm_zero (fun _ _ => by grind)] at e
    have m : (L.map fun l => (l.2 : Rat) * 1 - dot (qs l.1) (zs n)) = bq L := List.map_congr_left fun l _ => by
      rw [dot_zs]; grind
    rw [m] at e
    grind
end LP

namespace LP
def Keeps (L : List Lim) (pt : List Rat) : Prop := ∀ l ∈ L, dot (qs l.1) pt ≤ (l.2 : Rat)
def dirB (B : Bo) (p : Nat) : Int → Rat := fill B 0 (un B.tails.length p)
theorem un_len (t p : Nat) : (un t p).length = t := by simp [un, zs]
section
variable {lab : List Int} {S : SolS} {z : ObjZ} {B : Bo}
theorem bas_nn (G : Good lab S z B) (F : Feas B) {l : Int} (h : l ∈ lab) : 0 ≤ bas B l := by
  rcases (G.mem l).mp h with q | q
  · have hi := List.idxOf_lt_length_iff.mpr q
    have := bas_h G hi
    rw [getD_idxOf q] at this
    rw [this]
    exact F _ hi
  · rw [bas_t G q]; exact Rat.le_refl
theorem dir_S (G : Good lab S z B) (p : Nat) : S 0 (dirB B p) := G.fill_S (un_len _ _)
theorem dir_z (G : Good lab S z B) {p : Nat} (hp : p < B.tails.length) : z 0 (dirB B p) = at' B.goal p := by
  rw [G.obj _ _ (dir_S G p)]
  unfold dirB
  rw [G.fill_ts (un_len _ _), dot_unit G.gl hp]
theorem dir_h (G : Good lab S z B) {p i : Nat} (hp : p < B.tails.length) (hi : i < B.heads.length) : dirB B p (B.heads.getD i 0) = at' (B.rows.getD i []) p := by
  unfold dirB
  rw [G.fill_h hi, dot_unit (G.row hi) hp]
theorem dir_t (G : Good lab S z B) {p : Nat} (hp : p < B.tails.length) {l : Int} (h : l ∈ B.tails) : dirB B p l = if l = B.tails.getD p 0 then 1 else 0 := by
  unfold dirB fill
  rw [if_pos h]
  unfold un
  rw [getD_set]
  by_cases e : l = B.tails.getD p 0
  · rw [if_pos e, if_pos ⟨by rw [e, idxOf_getD G.tn hp], by rw [zs_len]; exact List.idxOf_lt_length_iff.mpr h⟩]
  · rw [if_neg e, if_neg, getD_zs]
    rintro ⟨e2, _⟩
    exact e (by rw [e2, getD_idxOf h])
/-- a tail that grows without an end -/
def NoEnd (B : Bo) (p : Nat) : Prop := p < B.tails.length ∧ 0 < at' B.goal p ∧ ∀ i, i < B.heads.length → ¬ at' (B.rows.getD i []) p < 0
def Top (B : Bo) : Prop := ∀ j, j < B.tails.length → ¬ 0 < at' B.goal j
theorem dir_nn (G : Good lab S z B) {p : Nat} (h : NoEnd B p) {l : Int} (hl : l ∈ lab) : 0 ≤ dirB B p l := by
  rcases (G.mem l).mp hl with q | q
  · have hi := List.idxOf_lt_length_iff.mpr q
    have := dir_h G h.1 hi
    rw [getD_idxOf q] at this
    rw [this]
    have := h.2.2 _ hi
    grind
  · rw [dir_t G h.1 q]
    split <;> grind
end
section
variable {n : Nat} {L : List Lim} {z : ObjZ} {B : Bo}
theorem S1.lim {τ : Rat} {x : Int → Rat} (h : S1 n L τ x) {k : Nat} (hk : k < L.length) : x (2 * (n : Int) + 1 + (k : Int)) = (L.getD k ([], 0)).2 * τ - dot (qs (L.getD k ([], 0)).1) (diff n x) := by
  have := (eq_map_iff ([], 0) (by rw [slk_len])).mp h k (by rw [slk_len]; exact hk)
  rwa [slk_getD _ _ _ hk] at this
theorem Sh.lim {τ : Rat} {x : Int → Rat} (h : Sh n L τ x) {k : Nat} (hk : k < L.length) : x (2 * (n : Int) + 1 + (k : Int)) = (L.getD k ([], 0)).2 * τ - dot (qs (L.getD k ([], 0)).1) (diff n x) + x 0 := by
  have := (eq_map_iff ([], 0) (by rw [slk_len])).mp h k (by rw [slk_len]; exact hk)
  rwa [slk_getD _ _ _ hk] at this
theorem lim_at {P : Lim → Prop} (h : ∀ k, k < L.length → P (L.getD k ([], 0))) : ∀ l ∈ L, P l := fun l hl => by
  obtain ⟨k, hk, e⟩ := List.mem_iff_getElem.mp hl
  have := h k hk
  rwa [getD_eq hk, e] at this
theorem point_keeps (w : Wf n L) (G : Good (labOf (firstB n L)) (sysOf (firstB n L)) z B) (F : Feas B) : Keeps L (diff n (bas B)) := by
  have hS := (sys1 w _ _).mp (bas_S G)
  refine lim_at fun k hk => ?_
  have h1 := hS.lim hk
  have h2 := bas_nn G F (l := 2 * (n : Int) + 1 + (k : Int)) (List.mem_append.mpr (.inl (slk_mem.mpr ⟨by omega, by omega⟩)))
  rw [h1] at h2
  grind
theorem way_keeps (w : Wf n L) (G : Good (labOf (firstB n L)) (sysOf (firstB n L)) z B) {p : Nat} (h : NoEnd B p) : ∀ l ∈ L, dot (qs l.1) (diff n (dirB B p)) ≤ 0 := by
  have hS := (sys1 w _ _).mp (dir_S G p)
  refine lim_at fun k hk => ?_
  have h1 := hS.lim hk
  have h2 := dir_nn G h (l := 2 * (n : Int) + 1 + (k : Int)) (List.mem_append.mpr (.inl (slk_mem.mpr ⟨by omega, by omega⟩)))
  rw [h1] at h2
  grind
def zGoal (n : Nat) (g : List Int) : ObjZ := fun _ x => dot (qs g) (diff n x)
theorem way_up {g : List Int} (G : Good (labOf (firstB n L)) (sysOf (firstB n L)) (zGoal n g) B) {p : Nat} (h : NoEnd B p) : 0 < dot (qs g) (diff n (dirB B p)) := by
  have := dir_z G h.1
  unfold zGoal at this
  rw [this]
  exact h.2.1
theorem best_cert {g : List Int} (w : Wf n L) (hg : g.length = n) (G : Good (labOf (firstB n L)) (sysOf (firstB n L)) (zGoal n g) B) (h : Top B) :
    (∀ p ∈ prices n L B, 0 ≤ p) ∧ (∀ j, j < n → dot (prices n L B) (colq L j) = g.getD j 0) ∧ dot (prices n L B) (bq L) = dot (qs g) (diff n (bas B)) := by
  obtain ⟨h1, h2, h3⟩ := cert (ex := []) w hg G (by rw [List.append_nil]; exact List.Perm.refl _) (fun l hl => by simp at hl) (fun τ f _ => by
    have G0 : Good (labOf (firstB n L)) (sysOf (firstB n L)) (objOf (firstB n L).goal (firstB n L).tails) (firstB n L) :=
      ⟨List.Perm.refl _, lab1_nd n _, by simp [firstB, slk_len], fun row hr => by
        obtain ⟨l, hl, rfl⟩ := List.mem_map.mp hr
        simp [qs, rowI, firstB, amt, w l hl]; omega, by simp [firstB, zs, amt], fun _ _ => Iff.rfl, fun _ _ _ => rfl⟩
    have hl : ((amt n).map f).length = (firstB n L).tails.length := by simp [firstB]
    have hS := G0.fill_S (τ := τ) hl
    have ht : ∀ l ∈ amt n, fill (firstB n L) τ ((amt n).map f) l = f l := fun l hl' => by
      have := G0.fill_ts (τ := τ) hl
      exact List.map_inj_left.mp this l hl'
    refine ⟨_, hS, fun l hl' => ht l (by simpa using hl'), ?_, ?_⟩
    · rw [← diff_congr ht]
      exact (sys1 w _ _).mp hS
    · unfold zGoal
      rw [diff_congr ht]) (fun j hj => by have := h j hj; grind)
  refine ⟨h1, h2, ?_⟩
  rw [h3, ← bas_z G]
  rfl
end
/-! ### with the helper -/
section
variable {n : Nat} {L : List Lim} {B : Bo}
def zHelp : ObjZ := fun _ x => -x 0
theorem helpB_good (w : Wf n L) : Good (labOf (helpB n L)) (sysOf (helpB n L)) zHelp (helpB n L) := by
  refine ⟨List.Perm.refl _, labh_nd n _, by simp [helpB, slk_len], fun row hr => ?_, by simp [helpB, zs, amt], fun _ _ => Iff.rfl, fun τ x _ => ?_⟩
  · obtain ⟨l, hl, rfl⟩ := List.mem_map.mp hr
    simp [qs, rowI, helpB, amt, w l hl]; omega
  · show -x 0 = dot (zs (2 * n + 1) ++ [-1]) (τ :: (amt n ++ [0]).map x)
    rw [List.map_append, ← List.cons_append, dot_app _ _ _ _ (by simp [zs, amt]), dot_comm, dot_zs]
    simp [dot]
    grind
theorem zero_lab : (0 : Int) ∈ labOf (helpB n L) := by simp [labOf, helpB]
theorem helped_start (w : Wf n L) {r : Nat} (hr : r < L.length) (hneg : (L.getD r ([], 0)).2 < 0) (hmin : ∀ k, k < L.length → (L.getD r ([], 0)).2 ≤ (L.getD k ([], 0)).2) :
    Good (labOf (helpB n L)) (sysOf (helpB n L)) zHelp ((helpB n L).swap r (2 * n)) ∧ Feas ((helpB n L).swap r (2 * n)) := by
  have G := helpB_good w
  have hrow : ∀ k, k < L.length → (helpB n L).rows.getD k [] = qs (rowI (L.getD k ([], 0))) ++ [1] := fun k hk => by
    unfold helpB
    rw [getD_map_lt _ _ _ _ ([], 0) hk]
  have ha : ∀ k, k < L.length → at' ((helpB n L).rows.getD k []) (2 * n) = 1 := fun k hk => by
    rw [hrow k hk]
    unfold at'
    have hw := w _ (getD_mem (d := ([], 0)) hk)
    have hl : (qs (rowI (L.getD k ([], 0)))).length = 2 * n + 1 := by simp only [qs, rowI, List.length_map, List.length_cons, List.length_append, hw]; omega
    rw [List.getD, List.getElem?_append_right (by omega), hl]
    simp
  have h0 : ∀ k, k < L.length → ((helpB n L).rows.getD k []).getD 0 0 = ((L.getD k ([], 0)).2 : Rat) := fun k hk => by
    rw [hrow k hk]
    rfl
  have hh : (helpB n L).heads.length = L.length := slk_len n _
  have ht : (helpB n L).tails.length = 2 * n + 1 := by simp [helpB, amt]
  refine ⟨G.swap (by rw [hh]; exact hr) (by rw [ht]; omega) (by rw [ha r hr]; grind), fun i hi => ?_⟩
  have hi' : i < L.length := by
    have : ((helpB n L).swap r (2 * n)).heads.length = (helpB n L).heads.length := by simp [Bo.swap]
    omega
  rw [swap_row G (by omega) (by rw [ht]; omega) (by omega)]
  have er : ratio ((helpB n L).rows.getD r []) (2 * n) = -((L.getD r ([], 0)).2 : Rat) := by
    unfold ratio
    rw [ha r hr, h0 r hr]
    grind
  have hn : ((L.getD r ([], 0)).2 : Rat) < 0 := by
    have := Rat.intCast_lt_intCast.mpr hneg
    simpa using this
  have hm : ((L.getD r ([], 0)).2 : Rat) ≤ ((L.getD i ([], 0)).2 : Rat) := Rat.intCast_le_intCast.mpr (hmin i hi')
  rw [er, ha i hi', h0 i hi']
  split <;> grind
theorem help_end (G : Good (labOf (helpB n L)) (sysOf (helpB n L)) zHelp B) {p : Nat} (h : NoEnd B p) : False := by
  have h1 := dir_z G h.1
  have h2 := dir_nn G h (zero_lab (n := n) (L := L))
  have h3 := h.2.1
  unfold zHelp at h1
  grind
theorem help_clash (w : Wf n L) (G : Good (labOf (helpB n L)) (sysOf (helpB n L)) zHelp B) (F : Feas B) (h : Top B) (hne : B.goal.getD 0 0 ≠ 0) :
    (∀ p ∈ prices n L B, 0 ≤ p) ∧ (∀ j, j < n → dot (prices n L B) (colq L j) = 0) ∧ dot (prices n L B) (bq L) < 0 := by
  have dzero : ∀ xs : List Rat, dot (qs (List.replicate n 0)) xs = 0 := fun xs => by
    have : qs (List.replicate n 0) = zs n := by simp [qs, zs]
    rw [this, dot_comm, dot_zs]
  obtain ⟨h1, h2, h3⟩ := cert (ex := [0]) (g := List.replicate n 0) w (by simp) G (List.Perm.refl _) (fun l hl hm => by
    rw [amt_mem] at hm
    simp at hl
    omega) (fun τ f hf => by
    have G0 := helpB_good w
    have hl : ((amt n ++ [0]).map f).length = (helpB n L).tails.length := by simp [helpB]
    have hS := G0.fill_S (τ := τ) hl
    have ht : ∀ l ∈ amt n ++ [0], fill (helpB n L) τ ((amt n ++ [0]).map f) l = f l := fun l hl' => by
      have := G0.fill_ts (τ := τ) hl
      exact List.map_inj_left.mp this l hl'
    have e0 := ht 0 (by simp)
    rw [hf 0 (by simp)] at e0
    refine ⟨_, hS, ht, ?_, ?_⟩
    · rw [← diff_congr (fun l hl' => ht l (by simp [hl']))]
      have := (sysh w _ _).mp hS
      unfold Sh at this
      rw [this, e0]
      exact List.map_congr_left fun l _ => by grind
    · unfold zHelp
      rw [e0, dzero]
      grind) (fun j hj => by have := h j hj; grind)
  refine ⟨h1, fun j hj => ?_, ?_⟩
  · rw [h2 j hj]
    simp [List.getD, hj]
  · rw [h3]
    have e := bas_z G
    have q := bas_nn G F (zero_lab (n := n) (L := L))
    unfold zHelp at e
    grind
/-- the helper among the heads: a place to change with -/
theorem help_place (w : Wf n L) (G : Good (labOf (helpB n L)) (sysOf (helpB n L)) zHelp B) {r : Nat} (hr : r < B.heads.length) (h : B.heads.getD r 0 = 0) : ∃ p, p < B.tails.length ∧ at' (B.rows.getD r []) p ≠ 0 := by
  apply Classical.byContradiction
  intro hn
  have z : ∀ p, p < B.tails.length → at' (B.rows.getD r []) p = 0 := fun p hp => Classical.byContradiction fun q => hn ⟨p, hp, q⟩
  have G0 := helpB_good w
  have hl : (un (helpB n L).tails.length (2 * n)).length = (helpB n L).tails.length := un_len _ _
  have hS := G0.fill_S (τ := 0) hl
  have hm : (0 : Int) ∈ (helpB n L).tails := by simp [helpB]
  have h1 := (G.sol _ _).mp hS r hr
  rw [h] at h1
  have ht : (helpB n L).tails.length = 2 * n + 1 := by simp [helpB, amt]
  have e1 : fill (helpB n L) 0 (un (helpB n L).tails.length (2 * n)) 0 = 1 := by
    have := dir_t G0 (p := 2 * n) (by omega) hm
    unfold dirB at this
    rw [this, if_pos]
    unfold helpB
    simp [List.getD, amt]
  rw [e1] at h1
  have hrow := G.row hr
  -- the row is nought behind its first number
  have : dot (B.rows.getD r []) ((0 : Rat) :: B.tails.map (fill (helpB n L) 0 (un (helpB n L).tails.length (2 * n)))) = 0 := by
    cases hc : B.rows.getD r [] with
    | nil => rw [dot_nil_l]
    | cons a as =>
      rw [hc] at hrow
      have hz : as = zs as.length := by
        apply List.ext_getElem
        · simp [zs]
        · intro i h1 h2
          have := z i (by simp at hrow; omega)
          rw [hc] at this
          unfold at' at this
          rw [List.getD_cons_succ, getD_eq h1] at this
          rw [this]
          simp [zs]
      rw [dot_cons, hz, dot_comm, dot_zs]
      grind
  rw [this] at h1
  grind
theorem help_zero (G : Good (labOf (helpB n L)) (sysOf (helpB n L)) zHelp B) (h0 : B.goal.getD 0 0 = 0) {r : Nat} (hr : r < B.heads.length) (h : B.heads.getD r 0 = 0) : (B.rows.getD r []).getD 0 0 = 0 := by
  have e := bas_z G
  have e2 := bas_h G hr
  rw [h] at e2
  unfold zHelp at e
  grind
theorem help_free (G : Good (labOf (helpB n L)) (sysOf (helpB n L)) zHelp B) (F : Feas B) (h0 : B.goal.getD 0 0 = 0) {r p : Nat} (hr : r < B.heads.length) (h : B.heads.getD r 0 = 0) (hp : p < B.tails.length) (hne : at' (B.rows.getD r []) p ≠ 0) :
    Good (labOf (helpB n L)) (sysOf (helpB n L)) zHelp (B.swap r p) ∧ Feas (B.swap r p) ∧ (B.swap r p).tails.idxOf 0 = p ∧ (0 : Int) ∈ (B.swap r p).tails := by
  have hz := help_zero G h0 hr h
  have G2 := G.swap hr hp hne
  have ht : (B.swap r p).tails = B.tails.set p 0 := by rw [B.swap_t, h]
  refine ⟨G2, fun i hi => ?_, ?_, ?_⟩
  · have hi' : i < B.heads.length := by simpa [Bo.swap] using hi
    rw [swap_row G hr hp hi']
    have : ratio (B.rows.getD r []) p = 0 := by unfold ratio; rw [hz]; grind
    rw [this]
    have := F i hi'
    split <;> grind
  · have := idxOf_getD G2.tn (i := p) (by rw [ht]; simpa using hp)
    rw [ht] at this ⊢
    rwa [getD_set, if_pos ⟨rfl, hp⟩] at this
  · rw [ht]; exact List.mem_set hp 0
theorem map_erase {α β : Type} (f : α → β) : ∀ (xs : List α) (p : Nat), (xs.eraseIdx p).map f = (xs.map f).eraseIdx p
  | [], _ => rfl
  | x :: xs, 0 => rfl
  | x :: xs, p + 1 => by
    simp only [List.eraseIdx_cons_succ, List.map_cons]
    rw [map_erase f xs p]
def Bo.lose (B : Bo) (p : Nat) : Bo := { heads := B.heads, tails := B.tails.eraseIdx p, rows := B.rows.map fun row => row.eraseIdx (p + 1), goal := B.goal.eraseIdx (p + 1) }
theorem dot_erase : ∀ (as xs : List Rat) (q : Nat), as.length = xs.length → xs.getD q 0 = 0 → dot (as.eraseIdx q) (xs.eraseIdx q) = dot as xs
  | [], [], q, _, _ => by simp [dot_nil_l]
  | a :: as, x :: xs, 0, h, h0 => by
    have h0' : x = 0 := by simpa using h0
    rw [List.eraseIdx_cons_zero, List.eraseIdx_cons_zero, dot_cons, h0']
    grind
  | a :: as, x :: xs, q + 1, h, h0 => by
    rw [List.eraseIdx_cons_succ, List.eraseIdx_cons_succ, dot_cons, dot_cons, dot_erase as xs q (by simpa using h) (by simpa using h0)]
theorem lose_good (w : Wf n L) (G : Good (labOf (helpB n L)) (sysOf (helpB n L)) zHelp B) (F : Feas B) (hm : (0 : Int) ∈ B.tails) {p : Nat} (hp : B.tails.idxOf 0 = p) :
    Good (labOf (firstB n L)) (sysOf (firstB n L)) (objOf (B.lose p).goal (B.lose p).tails) (B.lose p) ∧ Feas (B.lose p) := by
  have hpl : p < B.tails.length := hp ▸ List.idxOf_lt_length_iff.mpr hm
  have hpg : B.tails.getD p 0 = 0 := hp ▸ getD_idxOf hm
  have hperm : (B.heads ++ B.tails.eraseIdx p).Perm (labOf (firstB n L)) := by
    have e1 : (B.tails).Perm (0 :: B.tails.eraseIdx p) := by
      have := List.perm_cons_erase hm
      rwa [List.erase_eq_eraseIdx_of_idxOf hp] at this
    have e2 : (labOf (helpB n L)).Perm (0 :: labOf (firstB n L)) := by
      unfold labOf helpB firstB
      simp only
      rw [← List.append_assoc]
      exact List.perm_append_comm
    have e3 : (0 :: (B.heads ++ B.tails.eraseIdx p)).Perm (0 :: labOf (firstB n L)) :=
      (List.perm_middle.symm.trans ((List.Perm.append_left _ e1.symm).trans G.perm)).trans e2
    exact List.Perm.cons_inv e3
  have hlenE : ∀ row : List Rat, row.length = B.tails.length + 1 → (row.eraseIdx (p + 1)).length = (B.tails.eraseIdx p).length + 1 := fun row hr => by
    rw [List.length_eraseIdx_of_lt (by omega), List.length_eraseIdx_of_lt hpl]
    omega
  refine ⟨⟨hperm, lab1_nd n _, by simp [Bo.lose, G.rl], fun row hr => ?_, hlenE _ G.gl, fun τ x => ?_, fun _ _ _ => rfl⟩, fun i hi => ?_⟩
  · obtain ⟨row', h1, rfl⟩ := List.mem_map.mp hr
    exact hlenE _ (G.rw' _ h1)
  · -- x with nought for the helper
    let y : Int → Rat := fun l => if l = 0 then 0 else x l
    have hy : ∀ l, l ≠ 0 → y l = x l := fun l h => if_neg h
    have e1 : sysOf (firstB n L) τ x ↔ sysOf (helpB n L) τ y := by
      rw [sys1 w, sysh w]
      unfold S1 Sh
      have a : (slk n L.length).map y = (slk n L.length).map x := List.map_congr_left fun l hl => hy l (by rw [slk_mem] at hl; omega)
      have b : diff n y = diff n x := diff_congr fun l hl => hy l (by rw [amt_mem] at hl; omega)
      have c : y 0 = 0 := if_pos rfl
      rw [a, b, c]
      have d : (L.map fun l => (l.2 : Rat) * τ - dot (qs l.1) (diff n x) + 0) = L.map fun l => (l.2 : Rat) * τ - dot (qs l.1) (diff n x) := List.map_congr_left fun l _ => by grind
      rw [d]
    rw [e1, G.sol]
    have key : ∀ i, i < B.heads.length → ((y (B.heads.getD i 0) = dot (B.rows.getD i []) (τ :: B.tails.map y)) ↔ (x (B.heads.getD i 0) = dot ((B.lose p).rows.getD i []) (τ :: (B.lose p).tails.map x))) := fun i hi => by
      have hne : B.heads.getD i 0 ≠ 0 := fun e => G.nb (getD_mem hi) (by rw [e]; exact hm)
      rw [hy _ hne]
      have hi' : i < B.rows.length := by rw [G.rl]; exact hi
      have er : (B.lose p).rows.getD i [] = (B.rows.getD i []).eraseIdx (p + 1) := by
        unfold Bo.lose
        rw [getD_map_lt _ _ _ _ [] hi']
      have et : (τ :: (B.lose p).tails.map x) = (τ :: B.tails.map y).eraseIdx (p + 1) := by
        rw [List.eraseIdx_cons_succ]
        congr 1
        show (B.tails.eraseIdx p).map x = _
        have : (B.tails.eraseIdx p).map x = (B.tails.eraseIdx p).map y := List.map_congr_left fun l hl => by
          rw [hy]
          intro e
          have hd := G.tn
          have q := List.erase_eq_eraseIdx_of_idxOf hp
          rw [← q, e] at hl
          exact List.Nodup.not_mem_erase hd hl
        rw [this, map_erase]
      rw [er, et, dot_erase _ _ _ (by rw [G.row hi]; simp) (by rw [List.getD_cons_succ, getD_map_lt y _ _ 0 0 hpl, hpg]; exact if_pos rfl)]
    constructor
    · exact fun h i hi => (key i hi).mp (h i hi)
    · exact fun h i hi => (key i hi).mpr (h i hi)
  · have hi' : i < B.heads.length := hi
    have hi2 : i < B.rows.length := by rw [G.rl]; exact hi'
    have er : (B.lose p).rows.getD i [] = (B.rows.getD i []).eraseIdx (p + 1) := by
      unfold Bo.lose
      rw [getD_map_lt _ _ _ _ [] hi2]
    have := F i hi'
    have hrow := G.row hi'
    rw [er]
    cases hc : B.rows.getD i [] with
    | nil => rw [hc] at hrow; simp at hrow
    | cons a as =>
      rw [hc] at this
      simpa using this
end
end LP

namespace LP
def OfD (D : Int) (b : Nat) (r : Rat) : Prop := ∃ u : Int, u.natAbs ≤ b ∧ r = (u : Rat) / (D : Rat)
def Fz (h : Nat) (r : Rat) : Prop := ∃ u D : Int, D ≠ 0 ∧ u.natAbs < 2 ^ h ∧ D.natAbs < 2 ^ h ∧ r = (u : Rat) / (D : Rat)
theorem OfD.fz {D : Int} {b h : Nat} {r : Rat} (o : OfD D b r) (h0 : D ≠ 0) (hD : D.natAbs < 2 ^ h) (hb : b < 2 ^ h) : Fz h r := by
  obtain ⟨u, h1, h2⟩ := o
  exact ⟨u, D, h0, by omega, hD, h2⟩
theorem OfD.mono {D : Int} {b c : Nat} {r : Rat} (o : OfD D b r) (h : b ≤ c) : OfD D c r := by
  obtain ⟨u, h1, h2⟩ := o
  exact ⟨u, by omega, h2⟩
theorem OfD.zero (D : Int) (b : Nat) : OfD D b 0 := ⟨0, by simp, by have : ((0 : Int) : Rat) = 0 := rfl; rw [this]; grind⟩
theorem OfD.add {D : Int} {b c : Nat} {r s : Rat} (o : OfD D b r) (p : OfD D c s) : OfD D (b + c) (r + s) := by
  obtain ⟨u, h1, h2⟩ := o
  obtain ⟨v, h3, h4⟩ := p
  exact ⟨u + v, by omega, by rw [h2, h4, Rat.intCast_add]; grind⟩
theorem OfD.neg {D : Int} {b : Nat} {r : Rat} (o : OfD D b r) : OfD D b (-r) := by
  obtain ⟨u, h1, h2⟩ := o
  exact ⟨-u, by omega, by rw [h2, Rat.intCast_neg]; grind⟩
theorem OfD.sub {D : Int} {b c : Nat} {r s : Rat} (o : OfD D b r) (p : OfD D c s) : OfD D (b + c) (r - s) := by
  have := o.add p.neg
  rwa [← Rat.sub_eq_add_neg] at this
theorem OfD.smul {D : Int} {b : Nat} {r : Rat} (o : OfD D b r) {c : Int} {m : Nat} (hc : c.natAbs ≤ m) : OfD D (m * b) (c * r) := by
  obtain ⟨u, h1, h2⟩ := o
  exact ⟨c * u, by rw [Int.natAbs_mul]; exact Nat.mul_le_mul hc h1, by rw [h2, Rat.intCast_mul]; grind⟩
theorem OfD.dot {D : Int} {b m : Nat} : ∀ {g : List Int} {xs : List Rat}, (∀ a ∈ g, a.natAbs ≤ m) → (∀ x ∈ xs, OfD D b x) → OfD D (xs.length * (m * b)) (dot (qs g) xs)
  | [], xs, _, _ => by
    show OfD _ _ (LP.dot [] xs)
    rw [dot_nil_l]; exact .zero _ _
  | a :: g, [], _, _ => by rw [dot_nil_r]; exact .zero _ _
  | a :: g, x :: xs, h, h' => by
    have := (OfD.smul (h' x (by simp)) (h a (by simp))).add (OfD.dot (g := g) (xs := xs) (fun c hc => h c (by simp [hc])) (fun c hc => h' c (by simp [hc])))
    refine this.mono ?_
    rw [List.length_cons, Nat.add_mul, Nat.one_mul]
    omega
/-! ### sizes of a board -/
def BSz (h : Nat) (B : Bo) : Prop := (∀ row ∈ B.rows, ∀ a ∈ row, Fz h a) ∧ ∀ a ∈ B.goal, Fz h a
section
variable {M n : Nat} {B0 : Bo} {z : ObjZ} {B : Bo}
theorem bas_col (I : IntB M B0) (G : Good (labOf B0) (sysOf B0) z B) (ht : B.tails.length = B0.tails.length) :
    ∃ D : Int, D ≠ 0 ∧ D.natAbs ≤ kB B.tails.length M ∧ ∀ l ∈ labOf B0, OfD D (kB B.tails.length M) (bas B l) := by
  obtain ⟨D, h1, h2, u, h3⟩ := col I G ht (j := 0) (by omega) (τ' := 1) (xs' := zs B.tails.length) (by simp [zs, List.replicate_succ])
  exact ⟨D, h1, h2, fun l hl => ⟨u l, (h3 l hl).1, (h3 l hl).2⟩⟩
theorem dir_col (I : IntB M B0) (G : Good (labOf B0) (sysOf B0) z B) (ht : B.tails.length = B0.tails.length) {p : Nat} (hp : p < B.tails.length) :
    ∃ D : Int, D ≠ 0 ∧ D.natAbs ≤ kB B.tails.length M ∧ ∀ l ∈ labOf B0, OfD D (kB B.tails.length M) (dirB B p l) := by
  obtain ⟨D, h1, h2, u, h3⟩ := col I G ht (j := p + 1) (by omega) (τ' := 0) (xs' := un B.tails.length p) (by simp [un, zs, List.replicate_succ])
  exact ⟨D, h1, h2, fun l hl => ⟨u l, (h3 l hl).1, (h3 l hl).2⟩⟩
theorem getD_of_mem {a : Rat} {row : List Rat} (h : a ∈ row) : ∃ j, j < row.length ∧ a = row.getD j 0 := by
  obtain ⟨j, hj, e⟩ := List.mem_iff_getElem.mp h
  exact ⟨j, hj, by rw [getD_eq hj, e]⟩
theorem rows_sz (I : IntB M B0) (G : Good (labOf B0) (sysOf B0) z B) (ht : B.tails.length = B0.tails.length) {h : Nat} (hh : kB B.tails.length M < 2 ^ h) : ∀ row ∈ B.rows, ∀ a ∈ row, Fz h a := by
  intro row hrow a ha
  obtain ⟨i, hi, e⟩ := List.mem_iff_getElem.mp hrow
  have hi' : i < B.heads.length := by rw [← G.rl]; exact hi
  have e' : B.rows.getD i [] = row := by rw [getD_eq hi, e]
  have hl := G.rw' row hrow
  have hm : B.heads.getD i 0 ∈ labOf B0 := (G.mem _).mpr (.inl (getD_mem hi'))
  obtain ⟨j, hj, rfl⟩ := getD_of_mem ha
  cases j with
  | zero =>
    obtain ⟨D, h1, h2, h3⟩ := bas_col I G ht
    have := h3 _ hm
    rw [bas_h G hi', e'] at this
    exact this.fz h1 (by omega) hh
  | succ p =>
    obtain ⟨D, h1, h2, h3⟩ := dir_col I G ht (p := p) (by omega)
    have := h3 _ hm
    rw [dir_h G (by omega) hi', e'] at this
    exact this.fz h1 (by omega) hh
/-- a goal that is a bounded form tells bounded numbers -/
def ZB (lab : List Int) (z : ObjZ) (c : Nat) : Prop := ∀ τ x (D : Int) b, (∀ l ∈ lab, OfD D b (x l)) → OfD D (c * b) (z τ x)
theorem goal_sz (I : IntB M B0) (G : Good (labOf B0) (sysOf B0) z B) (ht : B.tails.length = B0.tails.length) {h c : Nat} (hz : ZB (labOf B0) z c) (hh : kB B.tails.length M < 2 ^ h) (hc : c * kB B.tails.length M < 2 ^ h) : ∀ a ∈ B.goal, Fz h a := by
  intro a ha
  have hl := G.gl
  obtain ⟨j, hj, rfl⟩ := getD_of_mem ha
  cases j with
  | zero =>
    obtain ⟨D, h1, h2, h3⟩ := bas_col I G ht
    have := hz 1 _ D _ h3
    rw [bas_z G] at this
    exact this.fz h1 (by omega) hc
  | succ p =>
    obtain ⟨D, h1, h2, h3⟩ := dir_col I G ht (p := p) (by omega)
    have := hz 0 _ D _ h3
    rw [dir_z G (by omega)] at this
    exact this.fz h1 (by omega) hc
end
/-! ### another goal -/
def rvec (B : Bo) (a : Int) : List Rat := if a ∈ B.heads then B.rows.getD (B.heads.idxOf a) [] else (zs (B.tails.length + 1)).set (B.tails.idxOf a + 1) 1
def manyI (n : Nat) (g : List Int) (k : Nat) : Int := if k < n then g.getD k 0 else -g.getD (k - n) 0
def aim (B : Bo) (n : Nat) (g : List Int) : Nat → List Rat
  | 0 => zs (B.tails.length + 1)
  | k + 1 => List.zipWith (fun a b => a + (manyI n g k : Rat) * b) (aim B n g k) (rvec B ((k : Int) + 1))
def ps (n : Nat) (g : List Int) (x : Int → Rat) : Nat → Rat
  | 0 => 0
  | k + 1 => ps n g x k + (manyI n g k : Rat) * x ((k : Int) + 1)
theorem ps_dot (n : Nat) (g : List Int) (x : Int → Rat) : ∀ k, ps n g x k = dot ((List.range k).map fun i => (manyI n g i : Rat)) ((List.range k).map fun i : Nat => x ((i : Int) + 1))
  | 0 => rfl
  | k + 1 => by
    rw [List.range_succ, List.map_append, List.map_append, dot_app _ _ _ _ (by simp), ← ps_dot n g x k]
    show _ = _ + (_ + 0)
    simp only [ps]
    grind
theorem ps_all {n : Nat} {g : List Int} (hg : g.length = n) (x : Int → Rat) : ps n g x (2 * n) = dot (qs g) (diff n x) := by
  rw [ps_dot, show 2 * n = n + n by omega, List.range_add, List.map_append, List.map_append, dot_app _ _ _ _ (by simp), diff_zip, dot_sub_r _ _ _ (by simp)]
  have e1 : (List.range n).map (fun i => (manyI n g i : Rat)) = qs g := by
    apply List.ext_getElem
    · simp [qs, hg]
    · intro i h1 h2
      have hi : i < n := by simpa using h1
      simp [manyI, hi, qs, List.getD, hg]
  have e2 : ((List.range n).map (n + ·)).map (fun i => (manyI n g i : Rat)) = qs (g.map fun i => -i) := by
    apply List.ext_getElem
    · simp [qs, hg]
    · intro i h1 h2
      have hi : i < n := by simpa using h1
      have hni : ¬ n + i < n := by omega
      simp [manyI, hi, qs, List.getD, hg, hni, Rat.intCast_neg]
  have e3 : ((List.range n).map (n + ·)).map (fun i : Nat => x ((i : Int) + 1)) = (List.range n).map (fun j : Nat => x ((n : Int) + (j : Int) + 1)) := by
    rw [List.map_map]
    apply List.map_congr_left
    intro j _
    simp
  rw [e1, e2, e3, dot_neg_l]
  grind
theorem ps_ofD {n m b : Nat} {g : List Int} {D : Int} {x : Int → Rat} (hm : ∀ a ∈ g, a.natAbs ≤ m) : ∀ k, (∀ i : Nat, i < k → OfD D b (x ((i : Int) + 1))) → OfD D (k * (m * b)) (ps n g x k)
  | 0, _ => by simp only [ps]; exact .zero _ _
  | k + 1, h => by
    have hmk : (manyI n g k).natAbs ≤ m := by
      have gd : ∀ j, (g.getD j 0).natAbs ≤ m := fun j => by
        by_cases hj : j < g.length
        · exact hm _ (getD_mem hj)
        · simp [List.getD, hj]
      unfold manyI
      split
      · exact gd _
      · rw [Int.natAbs_neg]; exact gd _
    have := (ps_ofD (n := n) (g := g) (D := D) (x := x) hm k fun i hi => h i (by omega)).add (OfD.smul (h k (by omega)) hmk)
    refine this.mono ?_
    rw [Nat.add_mul, Nat.one_mul]
    omega
section
variable {lab : List Int} {S : SolS} {z : ObjZ} {B : Bo} {n : Nat} {g : List Int}
theorem rvec_len (G : Good lab S z B) (a : Int) : (rvec B a).length = B.tails.length + 1 := by
  unfold rvec
  split
  · rename_i h
    exact G.row (List.idxOf_lt_length_iff.mpr h)
  · simp [zs]
theorem rvec_dot (G : Good lab S z B) {a : Int} (ha : a ∈ lab) {τ : Rat} {x : Int → Rat} (hS : S τ x) : dot (rvec B a) (τ :: B.tails.map x) = x a := by
  unfold rvec
  by_cases h : a ∈ B.heads
  · rw [if_pos h]
    have := (G.sol τ x).mp hS _ (List.idxOf_lt_length_iff.mpr h)
    rw [getD_idxOf h] at this
    exact this.symm
  · rw [if_neg h]
    have ht : a ∈ B.tails := by
      rcases (G.mem a).mp ha with q | q
      · exact absurd q h
      · exact q
    have hi := List.idxOf_lt_length_iff.mpr ht
    rw [dot_zset (by simp) (by omega), List.getD_cons_succ, getD_map_lt x _ _ 0 0 hi, getD_idxOf ht]
theorem aim_len (G : Good lab S z B) : ∀ k, (aim B n g k).length = B.tails.length + 1
  | 0 => by simp [aim, zs]
  | k + 1 => by simp [aim, aim_len G k, rvec_len G]
theorem aim_dot (G : Good lab S z B) (hl : ∀ l ∈ amt n, l ∈ lab) {τ : Rat} {x : Int → Rat} (hS : S τ x) : ∀ k, k ≤ 2 * n → dot (aim B n g k) (τ :: B.tails.map x) = ps n g x k
  | 0, _ => by simp only [aim, ps]; rw [dot_comm, dot_zs]
  | k + 1, hk => by
    simp only [aim, ps]
    rw [dot_zip _ _ _ _ (by rw [aim_len G, rvec_len G]), aim_dot G hl hS k (by omega), rvec_dot G (hl _ (amt_mem.mpr ⟨by omega, by omega⟩)) hS]
theorem aim_good (G : Good lab S z B) (hl : ∀ l ∈ amt n, l ∈ lab) (hg : g.length = n) : Good lab S (zGoal n g) { B with goal := aim B n g (2 * n) } :=
  G.reGoal (aim_len G _) fun τ x hS => by
    rw [aim_dot G hl hS _ (Nat.le_refl _), ps_all hg]
    rfl
end
/-- its numbers on the way -/
theorem aim_sz {M n m : Nat} {g : List Int} {B0 : Bo} {z : ObjZ} {B : Bo} (I : IntB M B0) (G : Good (labOf B0) (sysOf B0) z B) (ht : B.tails.length = B0.tails.length) (hl : ∀ l ∈ amt n, l ∈ labOf B0) (hm : ∀ a ∈ g, a.natAbs ≤ m) {h : Nat}
    (hh : kB B.tails.length M < 2 ^ h) (hc : 2 * n * (m * kB B.tails.length M) < 2 ^ h) {k : Nat} (hk : k ≤ 2 * n) : ∀ a ∈ aim B n g k, Fz h a := by
  intro a ha
  have hlen := aim_len (n := n) (g := g) G k
  have hle : k * (m * kB B.tails.length M) ≤ 2 * n * (m * kB B.tails.length M) := Nat.mul_le_mul_right _ hk
  obtain ⟨j, hj, rfl⟩ := getD_of_mem ha
  cases j with
  | zero =>
    obtain ⟨D, h1, h2, h3⟩ := bas_col I G ht
    have := ps_ofD (n := n) (g := g) (x := bas B) (D := D) hm k fun i hi => h3 _ (hl _ (amt_mem.mpr ⟨by omega, by omega⟩))
    rw [← aim_dot G hl (bas_S G) k hk] at this
    unfold bas at this
    rw [G.fill_ts (zs_len _), dot_basic, Rat.mul_one] at this
    exact this.fz h1 (by omega) (by omega)
  | succ p =>
    obtain ⟨D, h1, h2, h3⟩ := dir_col I G ht (p := p) (by omega)
    have := ps_ofD (n := n) (g := g) (x := dirB B p) (D := D) hm k fun i hi => h3 _ (hl _ (amt_mem.mpr ⟨by omega, by omega⟩))
    rw [← aim_dot G hl (dir_S G p) k hk] at this
    unfold dirB at this
    rw [G.fill_ts (un_len _ _), dot_unit hlen (by omega)] at this
    exact this.fz h1 (by omega) (by omega)
theorem zHelp_zb {lab : List Int} (h : (0 : Int) ∈ lab) : ZB lab zHelp 1 := fun τ x D b hx => by
  rw [Nat.one_mul]
  exact (hx 0 h).neg
theorem zGoal_zb {lab : List Int} {n m : Nat} {g : List Int} (hg : g.length = n) (hl : ∀ l ∈ amt n, l ∈ lab) (hm : ∀ a ∈ g, a.natAbs ≤ m) : ZB lab (zGoal n g) (2 * n * m) := fun τ x D b hx => by
  have := ps_ofD (n := n) (g := g) (x := x) (D := D) (b := b) hm (2 * n) fun i hi => hx _ (hl _ (amt_mem.mpr ⟨by omega, by omega⟩))
  rw [ps_all hg] at this
  rw [Nat.mul_assoc]
  exact this
/-! ### sizes of what is told -/
/-- a point with one lower number -/
def PtSz (h : Nat) (pt : List Rat) : Prop := ∃ D : Int, D ≠ 0 ∧ D.natAbs < 2 ^ h ∧ ∀ a ∈ pt, ∃ u : Int, u.natAbs < 2 ^ h ∧ a = (u : Rat) / (D : Rat)
theorem diff_ofD {n b : Nat} {D : Int} {x : Int → Rat} (h : ∀ l ∈ amt n, OfD D b (x l)) : ∀ a ∈ diff n x, OfD D (b + b) a := by
  intro a ha
  obtain ⟨j, hj, rfl⟩ := List.mem_map.mp ha
  simp at hj
  exact (h _ (amt_mem.mpr ⟨by omega, by omega⟩)).sub (h _ (amt_mem.mpr ⟨by omega, by omega⟩))
theorem PtSz.of {h b : Nat} {D : Int} {pt : List Rat} (h0 : D ≠ 0) (hD : D.natAbs < 2 ^ h) (hb : b < 2 ^ h) (hp : ∀ a ∈ pt, OfD D b a) : PtSz h pt :=
  ⟨D, h0, hD, fun a ha => by obtain ⟨u, h1, h2⟩ := hp a ha; exact ⟨u, by omega, h2⟩⟩
theorem PtSz.fz {h : Nat} {pt : List Rat} (p : PtSz h pt) : ∀ a ∈ pt, Fz h a := fun a ha => by
  obtain ⟨D, h0, hD, hp⟩ := p
  obtain ⟨u, h1, h2⟩ := hp a ha
  exact ⟨u, D, h0, h1, hD, h2⟩
theorem prices_fz {n : Nat} {L : List Lim} {B : Bo} {h : Nat} (hg : ∀ a ∈ B.goal, Fz h a) (hl : B.goal.length = B.tails.length + 1) : ∀ p ∈ prices n L B, Fz h p := by
  intro p hp
  obtain ⟨l, _, rfl⟩ := List.mem_map.mp hp
  unfold cof
  split
  · rename_i hm
    have hi := List.idxOf_lt_length_iff.mpr hm
    obtain ⟨u, D, h1, h2, h3, h4⟩ := hg _ (getD_mem (d := 0) (by omega : B.tails.idxOf l + 1 < B.goal.length))
    refine ⟨-u, D, h1, by omega, h3, ?_⟩
    unfold at'
    rw [h4, Rat.intCast_neg]
    grind
  · refine ⟨0, 1, by omega, by simp; exact Nat.pow_pos (by omega), ?_, by simp; grind⟩
    have hm := hg (B.goal.getD 0 0) (getD_mem (by omega))
    obtain ⟨u, D, h1, h2, h3, h4⟩ := hm
    omega
end LP

namespace LK
open PySem
local macro_rules | `(tactic| trivial) => `(tactic| (try simp only [ent, List.length, List.map, List.replicate, List.cons_append, List.nil_append, Nat.sub_self, Nat.add_one_sub_one, Nat.reduceAdd, Nat.reduceSub]) <;> try simp only [wB, wS, wE, wEs, wO, wC, wSrc, e_neg, e_abs, e_lent, e_lenl, e_lens, e_lenS, e_tupt, e_tupl, e_lstt, e_lstl, e_inti, e_intb, e_str, e_isInt, e_isBool, e_isTup, e_isLst, e_isStr, e_isN, e_notN, e_add, e_sub, e_mul, e_fdiv, e_mod, e_pow, e_lt, e_le, e_gt, e_ge, e_eqi, e_nei, e_cat, e_tcat, e_ixl, e_ixs, e_ixt0, e_ixt1, e_ixt2, e_max, e_min, e_test, e_seql, e_seqt, e_seqs, e_rng, e_rng2, e_zipl, e_zipt, e_ziptt, e_sll, e_slt, e_sls, e_nm, e_pr, gt, st, ent, List.map, List.replicate, List.length, List.cons_append, List.nil_append, kOf, Nat.sub_self, Nat.add_one_sub_one, Nat.reduceAdd, Nat.reduceSub, reduceCtorEq, decide_eq_true_eq, Bool.not_eq_true', decide_eq_false_iff_not, if_true, if_false, Bool.false_eq_true, ite_true, ite_false])
/-! ### desks -/
abbrev Lim := LP.Lim
def limL (l : Lim) : D := .tup [.lst (l.1.map .int), .int l.2]
def limT (l : Lim) : D := .tup [.tup (l.1.map .int), .int l.2]
def deskD (n : Nat) (L : List Lim) : D := .tup [.int n, .tup (L.map limT)]
def ptD (pt : List Rat) : D := .lst (pt.map fr)
def sp_17 : FSp := fun ds b Q E => ∃ L : List Lim, ds = [.lst (L.map limL)] ∧ L.length ≤ 1000000 ∧ Q (.lst (L.map limL)) b
theorem len_17 (ds b Q E) (h : sp_17 ds b Q E) : ds.length = 1 := by
  obtain ⟨L, rfl, _⟩ := h
  rfl
theorem meets_17 {G : Gm} (r : G.fr 17 = true) : ∀ ds b Q E, sp_17 ds b Q E → wB G B_17 (kOf (G.fr 17) Q E) (ent N_17.length ds) b := by
  rintro ds b Q E ⟨L, rfl, hl, hQ⟩
  unfold B_17 N_17
  trivial
  refine ⟨by rw [List.length_map]; exact hl, wmap_e limL limL (fun l _ R hR => ?_) (.inl hQ)⟩
  unfold limL at hR ⊢
  trivial
  exact hR
def sp_18 : FSp := fun ds b Q E => ∃ (n : D) (L : List Lim), ds = [n, .lst (L.map limL)] ∧ L.length ≤ 1000000 ∧ Q (.tup [n, .tup (L.map limT)]) b
theorem len_18 (ds b Q E) (h : sp_18 ds b Q E) : ds.length = 2 := by
  obtain ⟨n, L, rfl, _⟩ := h
  rfl
theorem meets_18 {G : Gm} (r : G.fr 18 = false) : ∀ ds b Q E, sp_18 ds b Q E → wB G B_18 (kOf (G.fr 18) Q E) (ent N_18.length ds) b := by
  rintro ds b Q E ⟨n, L, rfl, hl, hQ⟩
  unfold B_18 N_18
  trivial
  refine ⟨by rw [List.length_map]; exact hl, wmap_e limL limT (fun l _ R hR => ?_) (.inl hQ)⟩
  unfold limL limT at *
  trivial
  exact hR
def sp_19 : FSp := sp_7
theorem len_19 (ds b Q E) (h : sp_19 ds b Q E) : ds.length = 1 := len_7 ds b Q E h
theorem meets_19 {G : Gm} (r : G.fr 19 = false) : ∀ ds b Q E, sp_19 ds b Q E → wB G B_19 (kOf (G.fr 19) Q E) (ent N_19.length ds) b := by
  rintro ds b Q E ⟨d, rfl, hd, hQ⟩
  unfold B_19 N_19
  trivial
  refine ⟨hd, iteb (fun h => ⟨hd, .inl ?_⟩) fun h => .inl ?_⟩
  · simpa [isWh, h] using hQ
  · simpa [isWh, h] using hQ
def sml (i : Int) : Bool := decide (-1000000000000 < i) && decide (i < 1000000000000)
def sp_20 : FSp := fun ds b Q E => ∃ i : Int, ds = [.int i] ∧ Q (.bl (sml i)) b
theorem len_20 (ds b Q E) (h : sp_20 ds b Q E) : ds.length = 1 := by
  obtain ⟨n, rfl, _⟩ := h
  rfl
theorem meets_20 {G : Gm} (g2 : G.gc 2 = .int 1000000000000) (r : G.fr 20 = false) : ∀ ds b Q E, sp_20 ds b Q E → wB G B_20 (kOf (G.fr 20) Q E) (ent N_20.length ds) b := by
  rintro ds b Q E ⟨i, rfl, hQ⟩
  unfold B_20 N_20
  trivial
  rw [g2]
  trivial
  refine L2.ite2 (fun h => .inl ?_) fun h => .inl ?_
  · simpa [sml, h] using hQ
  · simpa [sml, h] using hQ
def isRow (n : Int) : D → Bool
  | .lst xs => decide ((xs.length : Int) = n) && xs.all isWh
  | _ => false
def sp_21 : FSp := fun ds b Q E => ∃ (n : Int) (d : D), ds = [.int n, d] ∧ clD d = true ∧ Q (.bl (isRow n d)) b
theorem len_21 (ds b Q E) (h : sp_21 ds b Q E) : ds.length = 2 := by
  obtain ⟨n, d, rfl, _⟩ := h
  rfl
theorem meets_21 {G : Gm} (h19 : G.sp 19 = sp_19) (r : G.fr 21 = false) : ∀ ds b Q E, sp_21 ds b Q E → wB G B_21 (kOf (G.fr 21) Q E) (ent N_21.length ds) b := by
  rintro ds b Q E ⟨n, d, rfl, hc, hQ⟩
  unfold B_21 N_21
  trivial
  refine ⟨clD_brd hc, L2.ite2 (fun h => ?_) fun h => ?_⟩
  · have e : isRow n d = false := by cases d <;> first | rfl | exact absurd rfl h | simp [isLstD] at h
    rw [e] at hQ
    exact .inl hQ
  · have ht : ∃ es, d = .lst es := by cases d <;> first | exact ⟨_, rfl⟩ | exact Bool.noConfusion hc | exact absurd h (by simp [isLstD])
    obtain ⟨es, rfl⟩ := ht
    trivial
    refine L2.ite2 (fun h2 => ?_) fun h2 => ?_
    · have e : isRow n (.lst es) = false := by simp [isRow, h2]
      rw [e] at hQ
      exact .inl hQ
    · have hcs : clDs es = true := hc
      have hm := clDs_mem hcs
      rw [← List.map_id es]
      refine wfor_map id (fun pre δ b' => (∃ s, δ = [.vl (.int n), .vl (.lst (es.map id)), s]) ∧ b' = b ∧ ∀ x ∈ pre, isWh x = true) ⟨⟨_, rfl⟩, rfl, by simp⟩ ?_ ?_
      · rintro pre x post e δ b' ⟨⟨s, rfl⟩, rfl, hp⟩ R hR
        trivial
        rw [h19]
        have hx : x ∈ es := by rw [e]; simp
        refine ⟨x, rfl, clD_brd (hm x hx), ?_⟩
        trivial
        refine L2.ite2 (fun q => ?_) fun q => ?_
        · have e2 : isRow n (.lst es) = false := by
            simp only [isRow, Bool.and_eq_false_iff]
            right
            rw [List.all_eq_false]
            exact ⟨x, hx, by simpa using q⟩
          rw [e2] at hQ
          exact .inl hQ
        · refine hR _ _ ⟨⟨_, rfl⟩, rfl, fun y hy => ?_⟩
          rcases List.mem_append.mp hy with h3 | h3
          · exact hp y h3
          · simp at h3
            subst h3
            simpa using q
      · rintro δ b' ⟨⟨s, rfl⟩, rfl, hp⟩
        have e2 : isRow n (.lst es) = true := by
          simp only [isRow, Bool.and_eq_true, decide_eq_true_eq, List.all_eq_true]
          exact ⟨Classical.not_not.mp h2, hp⟩
        rw [e2] at hQ
        exact .inl hQ

/-- weights and a bound -/
def isLim (n : Int) : D → Bool
  | .tup [w, c] => isRow n w && isWh c && (match w with
    | .lst xs => xs.all fun x => match x with
      | .int i => sml i
      | _ => true
    | _ => true) && (match c with
    | .int i => sml i
    | _ => true)
  | _ => false
theorem isRow_ints {n : Int} {d : D} (h : isRow n d = true) : ∃ ns : List Int, d = .lst (ns.map .int) ∧ (ns.length : Int) = n := by
  cases d with
  | lst xs =>
    simp only [isRow, Bool.and_eq_true, decide_eq_true_eq, List.all_eq_true] at h
    have : ∀ ys : List D, (∀ x ∈ ys, isWh x = true) → ∃ ns : List Int, ys = ns.map .int := fun ys => by
      induction ys with
      | nil => exact fun _ => ⟨[], rfl⟩
      | cons y ys ih =>
        intro hy
        obtain ⟨i, e⟩ := isWh_int (hy y (by simp))
        obtain ⟨ns, e2⟩ := ih fun x hx => hy x (by simp [hx])
        exact ⟨i :: ns, by rw [e, e2]; rfl⟩
    obtain ⟨ns, rfl⟩ := this xs h.2
    exact ⟨ns, rfl, by simpa using h.1⟩
  | _ => simp [isRow] at h
theorem isRow_of (ns : List Int) : isRow ns.length (.lst (ns.map .int)) = true := by
  simp only [isRow, Bool.and_eq_true, decide_eq_true_eq, List.all_eq_true, List.length_map, true_and]
  intro x hx
  obtain ⟨i, _, rfl⟩ := List.mem_map.mp hx
  rfl
def sp_22 : FSp := fun ds b Q E => ∃ (n : Int) (d : D), ds = [.int n, d] ∧ clD d = true ∧ Q (.bl (isLim n d)) b
theorem len_22 (ds b Q E) (h : sp_22 ds b Q E) : ds.length = 2 := by
  obtain ⟨n, d, rfl, _⟩ := h
  rfl
theorem isLim_ints (n : Int) (ns : List Int) (c : Int) : isLim n (.tup [.lst (ns.map .int), .int c]) = (isRow n (.lst (ns.map .int)) && ns.all sml && sml c) := by
  have e : ((ns.map D.int).all fun x => match x with
      | .int i => sml i
      | _ => true) = ns.all sml := by
    rw [List.all_map]
    rfl
  show (isRow n _ && true && ((ns.map D.int).all _) && sml c) = _
  rw [e, Bool.and_true]
theorem meets_22 {G : Gm} (h19 : G.sp 19 = sp_19) (h20 : G.sp 20 = sp_20) (h21 : G.sp 21 = sp_21) (r : G.fr 22 = false) : ∀ ds b Q E, sp_22 ds b Q E → wB G B_22 (kOf (G.fr 22) Q E) (ent N_22.length ds) b := by
  rintro ds b Q E ⟨n, d, rfl, hc, hQ⟩
  unfold B_22 N_22
  trivial
  refine ⟨clD_brd hc, L2.ite2 (fun h => ?_) fun h => ?_⟩
  · have e : isLim n d = false := by cases d <;> first | rfl | exact absurd rfl h | simp [isTupD] at h
    rw [e] at hQ
    exact .inl hQ
  · have ht : ∃ es, d = .tup es := by cases d <;> first | exact ⟨_, rfl⟩ | exact absurd h (by simp [isTupD])
    obtain ⟨es, rfl⟩ := ht
    trivial
    refine L2.ite2 (fun h2 => ?_) fun h2 => ?_
    · have e : isLim n (.tup es) = false := by
        match es, h2 with
        | [], _ => rfl
        | [_], _ => rfl
        | [_, _], h2 => exact absurd rfl h2
        | _ :: _ :: _ :: _, _ => rfl
      rw [e] at hQ
      exact .inl hQ
    · have hl : es.length = 2 := by omega
      match es, hl, hc, hQ with
      | [x, y], _, hc, hQ =>
        have hc' : clDs [x, y] = true := hc
        have hx := clDs_mem hc' x (by simp)
        have hy := clDs_mem hc' y (by simp)
        trivial
        rw [h21, h19, h20]
        refine ⟨n, x, rfl, hx, ?_⟩
        trivial
        refine L2.ite2 (fun q => ?_) fun q => ?_
        · have e : isLim n (.tup [x, y]) = false := by simp [isLim, q]
          rw [e] at hQ
          exact .inl hQ
        · obtain ⟨ns, rfl, hn⟩ := isRow_ints (by simpa using q)
          refine ⟨y, rfl, clD_brd hy, ?_⟩
          trivial
          refine L2.ite2 (fun q2 => ?_) fun q2 => ?_
          · have e : isLim n (.tup [.lst (ns.map .int), y]) = false := by simp [isLim, q2]
            rw [e] at hQ
            exact .inl hQ
          · obtain ⟨c, rfl⟩ := isWh_int (by simpa using q2)
            rw [isLim_ints, show isRow n (.lst (ns.map .int)) = true from by simpa using q, Bool.true_and] at hQ
            refine wfor_map D.int (fun pre δ b' => (∃ s, δ = [.vl (.int n), .vl (.tup [.lst (ns.map .int), .int c]), s]) ∧ b' = b ∧ ∀ i ∈ pre, sml i = true) ⟨⟨_, rfl⟩, rfl, by simp⟩ ?_ ?_
            · rintro pre i post e δ b' ⟨⟨s, rfl⟩, rfl, hp⟩ R hR
              trivial
              refine ⟨i, rfl, ?_⟩
              trivial
              refine L2.ite2 (fun q => ?_) fun q => ?_
              · have e2 : ns.all sml = false := by
                  rw [List.all_eq_false]
                  exact ⟨i, by rw [e]; simp, by simpa using q⟩
                rw [e2] at hQ
                exact .inl hQ
              · refine hR _ _ ⟨⟨_, rfl⟩, rfl, fun j hj => ?_⟩
                rcases List.mem_append.mp hj with h3 | h3
                · exact hp j h3
                · simp at h3
                  subst h3
                  simpa using q
            · rintro δ b' ⟨⟨s, rfl⟩, rfl, hp⟩
              trivial
              have e2 : ns.all sml = true := by rw [List.all_eq_true]; exact hp
              rw [e2] at hQ
              exact ⟨c, rfl, .inl hQ⟩
/-- a desk that desk_of makes -/
def Valid (n : Nat) (L : List Lim) : Prop := 1 ≤ n ∧ n ≤ 4 ∧ L.length ≤ 10 ∧ LP.Wf n L ∧ ∀ l ∈ L, l.1.all sml = true ∧ sml l.2 = true
theorem isLim_of {n : Nat} {d : D} (h : isLim n d = true) : ∃ l : Lim, d = limL l ∧ l.1.length = n ∧ l.1.all sml = true ∧ sml l.2 = true := by
  cases d with
  | tup es =>
    match es, h with
    | [x, y], h =>
      have h1 : isRow n x = true := by
        simp only [isLim, Bool.and_eq_true] at h
        exact h.1.1.1
      have h2 : isWh y = true := by
        simp only [isLim, Bool.and_eq_true] at h
        exact h.1.1.2
      obtain ⟨ns, rfl, hn⟩ := isRow_ints h1
      obtain ⟨c, rfl⟩ := isWh_int h2
      rw [isLim_ints, Bool.and_eq_true, Bool.and_eq_true] at h
      exact ⟨(ns, c), rfl, by show ns.length = n; omega, h.1.2, h.2⟩
    | [], h => simp [isLim] at h
    | [_], h => simp [isLim] at h
    | _ :: _ :: _ :: _, h => simp [isLim] at h
  | _ => simp [isLim] at h
theorem isLim_limL {n : Nat} {l : Lim} (h : l.1.length = n) (h1 : l.1.all sml = true) (h2 : sml l.2 = true) : isLim n (limL l) = true := by
  unfold limL
  rw [isLim_ints, h1, h2, ← h, isRow_of]
  rfl
theorem clD_limL (l : Lim) : clD (limL l) = true := by
  have : clDs (l.1.map D.int) = true := clDs_of fun d hd => by
    obtain ⟨i, _, rfl⟩ := List.mem_map.mp hd
    rfl
  simp [limL, clD, clDs, this]
def sp_23 : FSp := fun ds b Q E => ∃ k l : D, ds = [k, l] ∧ clD k = true ∧ clD l = true ∧ (∀ (n : Nat) L, k = .int n → l = .lst (L.map limL) → Valid n L → Q (deskD n L) b) ∧ ((¬ ∃ (n : Nat) (L : List Lim), k = .int n ∧ l = .lst (L.map limL) ∧ Valid n L) → E 1)
theorem len_23 (ds b Q E) (h : sp_23 ds b Q E) : ds.length = 2 := by
  obtain ⟨n, d, rfl, _⟩ := h
  rfl
theorem limL_inj {L L' : List Lim} (h : L.map limL = L'.map limL) : L = L' := by
  refine (List.map_inj_right fun x y e => ?_).mp h
  unfold limL at e
  simp only [D.tup.injEq, List.cons.injEq, D.lst.injEq, D.int.injEq, and_true] at e
  have : x.1 = y.1 := (List.map_inj_right fun a c q => by cases q; rfl).mp e.1
  exact Prod.ext this e.2
theorem meets_23 {G : Gm} (h18 : G.sp 18 = sp_18) (h19 : G.sp 19 = sp_19) (h22 : G.sp 22 = sp_22) (g0 : G.gc 0 = .int 4) (g1 : G.gc 1 = .int 10) (r : G.fr 23 = false) : ∀ ds b Q E, sp_23 ds b Q E → wB G B_23 (kOf (G.fr 23) Q E) (ent N_23.length ds) b := by
  rintro ds b Q E ⟨k, l, rfl, hk, hl, hQ, hE⟩
  unfold B_23 N_23
  trivial
  rw [h19, h22, h18, g0, g1]
  refine ⟨k, rfl, clD_brd hk, ?_⟩
  trivial
  refine L2.ite2 (fun h => hE ?_) fun h => ?_
  · rintro ⟨n, L, rfl, _⟩
    simp [isWh, isIntD, isBoolD] at h
  obtain ⟨i, rfl⟩ := isWh_int (by simpa using h)
  trivial
  refine L2.ite2 (fun h1 => hE ?_) fun h1 => ?_
  · rintro ⟨n, L, e, _, q⟩
    cases e
    have := q.1
    omega
  refine L2.ite2 (fun h2 => hE ?_) fun h2 => ?_
  · rintro ⟨n, L, e, _, q⟩
    cases e
    have := q.2.1
    omega
  obtain ⟨n, rfl⟩ : ∃ n : Nat, i = n := ⟨i.toNat, by omega⟩
  refine ⟨clD_brd hl, L2.ite2 (fun h3 => hE ?_) fun h3 => ?_⟩
  · rintro ⟨n, L, _, rfl, _⟩
    simp [isLstD] at h3
  have ht : ∃ es, l = .lst es := by cases l <;> first | exact ⟨_, rfl⟩ | exact Bool.noConfusion hl | exact absurd h3 (by simp [isLstD])
  obtain ⟨es, rfl⟩ := ht
  trivial
  refine L2.ite2 (fun h4 => hE ?_) fun h4 => ?_
  · rintro ⟨n, L, _, e, q⟩
    cases e
    have := q.2.2.1
    rw [List.length_map] at h4
    omega
  rw [← List.map_id es]
  refine wfor_map id (fun pre δ b' => (∃ s, δ = [.vl (.int n), .vl (.lst (es.map id)), s]) ∧ b' = b ∧ ∀ x ∈ pre, isLim n x = true) ⟨⟨_, rfl⟩, rfl, by simp⟩ ?_ ?_
  · rintro pre x post e δ b' ⟨⟨s, rfl⟩, rfl, hp⟩ R hR
    trivial
    have hx : x ∈ es := by rw [e]; simp
    refine ⟨n, x, rfl, clDs_mem (show clDs es = true from hl) x hx, ?_⟩
    trivial
    refine L2.ite2 (fun q => hE ?_) fun q => ?_
    · rintro ⟨m, L, e1, e2, v⟩
      cases e1
      cases e2
      obtain ⟨y, hy, rfl⟩ := List.mem_map.mp hx
      have := isLim_limL (v.2.2.2.1 y hy) (v.2.2.2.2 y hy).1 (v.2.2.2.2 y hy).2
      simp [this] at q
    · refine hR _ _ ⟨⟨_, rfl⟩, rfl, fun y hy => ?_⟩
      rcases List.mem_append.mp hy with h5 | h5
      · exact hp y h5
      · simp at h5
        subst h5
        simpa using q
  · rintro δ b' ⟨⟨s, rfl⟩, rfl, hp⟩
    have : ∀ ys : List D, (∀ x ∈ ys, isLim n x = true) → ∃ L : List Lim, ys = L.map limL ∧ LP.Wf n L ∧ ∀ l ∈ L, l.1.all sml = true ∧ sml l.2 = true := fun ys => by
      induction ys with
      | nil => exact fun _ => ⟨[], rfl, fun l h => by simp at h, fun l h => by simp at h⟩
      | cons y ys ih =>
        intro hy
        obtain ⟨l, e, q1, q2, q3⟩ := isLim_of (hy y (by simp))
        obtain ⟨L, e2, w, v⟩ := ih fun x hx => hy x (by simp [hx])
        refine ⟨l :: L, by rw [e, e2]; rfl, fun m hm => ?_, fun m hm => ?_⟩
        · rcases List.mem_cons.mp hm with z | z
          · rw [z]; exact q1
          · exact w m z
        · rcases List.mem_cons.mp hm with z | z
          · rw [z]; exact ⟨q2, q3⟩
          · exact v m z
    obtain ⟨L, rfl, w, v⟩ := this es hp
    trivial
    simp only [List.length_map] at h4
    refine ⟨.int n, L, by simp, by omega, .inl ?_⟩
    exact hQ n L rfl rfl ⟨by omega, by omega, by omega, w, v⟩
end LK

namespace LK
open PySem
local macro_rules | `(tactic| trivial) => `(tactic| (try simp only [ent, List.length, List.map, List.replicate, List.cons_append, List.nil_append, Nat.sub_self, Nat.add_one_sub_one, Nat.reduceAdd, Nat.reduceSub]) <;> try simp only [wB, wS, wE, wEs, wO, wC, wSrc, e_neg, e_abs, e_lent, e_lenl, e_lens, e_lenS, e_tupt, e_tupl, e_lstt, e_lstl, e_inti, e_intb, e_str, e_isInt, e_isBool, e_isTup, e_isLst, e_isStr, e_isN, e_notN, e_add, e_sub, e_mul, e_fdiv, e_mod, e_pow, e_lt, e_le, e_gt, e_ge, e_eqi, e_nei, e_cat, e_tcat, e_ixl, e_ixs, e_ixt0, e_ixt1, e_ixt2, e_max, e_min, e_test, e_seql, e_seqt, e_seqs, e_rng, e_rng2, e_zipl, e_zipt, e_ziptt, e_sll, e_slt, e_sls, e_nm, e_pr, gt, st, ent, List.map, List.replicate, List.length, List.cons_append, List.nil_append, kOf, Nat.sub_self, Nat.add_one_sub_one, Nat.reduceAdd, Nat.reduceSub, reduceCtorEq, decide_eq_true_eq, Bool.not_eq_true', decide_eq_false_iff_not, if_true, if_false, Bool.false_eq_true, ite_true, ite_false])
open LP (dot qs)
/-! ### fractions once more -/
theorem fr_int (i : Int) : D.tup [.int i, .int 1] = fr (i : Rat) := by simp [fr]
theorem fr_inj {r s : Rat} (h : fr r = fr s) : r = s := by
  unfold fr at h
  simp only [D.tup.injEq, List.cons.injEq, D.int.injEq, and_true] at h
  exact Rat.ext h.1 (by have := h.2; omega)
theorem plD_fr (r : Rat) : plD (fr r) = true := rfl
theorem cmp_fr (r : Rat) (n : Nat) : cmpOk (n + 1) (fr r) = true := by simp [fr, cmpOk, cmpOks]
theorem q_eq {x y : D} {Q : D → Prop} (h1 : plD x = true) (h2 : plD y = true) (c1 : cmpOk 20 x = true) (c2 : cmpOk 20 y = true) (h : ∀ t : Bool, (t = true ↔ x = y) → Q (.bl t)) : w2 .eq x y Q := by
  rw [e_eq]
  exact ⟨c1, c2, h _ (eqD_iff x y h1 h2)⟩
theorem q_ne {x y : D} {Q : D → Prop} (h1 : plD x = true) (h2 : plD y = true) (c1 : cmpOk 20 x = true) (c2 : cmpOk 20 y = true) (h : ∀ t : Bool, (t = true ↔ x = y) → Q (.bl (!t))) : w2 .ne x y Q := by
  rw [e_ne]
  exact ⟨c1, c2, h _ (eqD_iff x y h1 h2)⟩
theorem q_eqf {r s : Rat} {Q : D → Prop} (h : Q (.bl (decide (r = s)))) : w2 .eq (fr r) (fr s) Q :=
  q_eq rfl rfl (cmp_fr r 19) (cmp_fr s 19) fun t ht => by
    have : t = decide (r = s) := by
      rw [Bool.eq_iff_iff, ht, decide_eq_true_eq]
      exact ⟨fr_inj, fun e => by rw [e]⟩
    rw [this]; exact h
theorem q_nef {r s : Rat} {Q : D → Prop} (h : Q (.bl (!decide (r = s)))) : w2 .ne (fr r) (fr s) Q :=
  q_ne rfl rfl (cmp_fr r 19) (cmp_fr s 19) fun t ht => by
    have : t = decide (r = s) := by
      rw [Bool.eq_iff_iff, ht, decide_eq_true_eq]
      exact ⟨fr_inj, fun e => by rw [e]⟩
    rw [this]; exact h
theorem cmpOks_map {α : Type} {f : α → D} {n : Nat} : ∀ {xs : List α}, (∀ x ∈ xs, cmpOk n (f x) = true) → cmpOks n (xs.map f) = true
  | [], _ => rfl
  | x :: xs, h => by
    simp only [List.map_cons, cmpOks, Bool.and_eq_true]
    exact ⟨h x (by simp), cmpOks_map fun y hy => h y (by simp [hy])⟩
theorem plDs_map {α : Type} {f : α → D} : ∀ {xs : List α}, (∀ x ∈ xs, plD (f x) = true) → plDs (xs.map f) = true
  | [], _ => rfl
  | x :: xs, h => by
    simp only [List.map_cons, plDs, Bool.and_eq_true]
    exact ⟨h x (by simp), plDs_map fun y hy => h y (by simp [hy])⟩
theorem clDs_map {α : Type} {f : α → D} {xs : List α} (h : ∀ x ∈ xs, clD (f x) = true) : clDs (xs.map f) = true := clDs_of fun d hd => by
  obtain ⟨x, hx, rfl⟩ := List.mem_map.mp hd
  exact h x hx
theorem cmp_int (i : Int) (n : Nat) : cmpOk n (.int i) = true := by cases n <;> rfl
theorem pl_pt (pt : List Rat) : plD (ptD pt) = true := plDs_map fun r _ => plD_fr r
theorem cl_fr (r : Rat) : clD (fr r) = true := rfl
theorem cl_pt (pt : List Rat) : clD (ptD pt) = true := clDs_map fun r _ => cl_fr r
theorem cmp_pt (pt : List Rat) (n : Nat) : cmpOk (n + 2) (ptD pt) = true := by
  show cmpOks (n + 1) _ = true
  exact cmpOks_map fun r _ => cmp_fr r n
theorem ptD_inj {p q : List Rat} (h : ptD p = ptD q) : p = q := by
  unfold ptD at h
  exact (List.map_inj_right fun _ _ e => fr_inj e).mp (D.lst.inj h)
theorem pl_limL (l : Lim) : plD (limL l) = true := by
  have : plDs (l.1.map D.int) = true := plDs_ints _
  simp [limL, plD, plDs, this]
theorem cmp_limL (l : Lim) (n : Nat) : cmpOk (n + 2) (limL l) = true := by
  have : cmpOks n (l.1.map D.int) = true := cmpOks_ints _ _
  simp only [limL, cmpOk, cmpOks, this, Bool.and_true]
theorem pl_limT (l : Lim) : plD (limT l) = true := by
  have : plDs (l.1.map D.int) = true := plDs_ints _
  simp [limT, plD, plDs, this]
theorem cmp_limT (l : Lim) (n : Nat) : cmpOk (n + 2) (limT l) = true := by
  have : cmpOks n (l.1.map D.int) = true := cmpOks_ints _ _
  simp only [limT, cmpOk, cmpOks, this, Bool.and_true]
theorem pl_desk (n : Nat) (L : List Lim) : plD (deskD n L) = true := by
  have : plDs (L.map limT) = true := plDs_map fun l _ => pl_limT l
  simp [deskD, plD, plDs, this]
theorem cmp_desk (n : Nat) (L : List Lim) (m : Nat) : cmpOk (m + 4) (deskD n L) = true := by
  have : cmpOks (m + 2) (L.map limT) = true := cmpOks_map fun l _ => cmp_limT l m
  simp [deskD, cmpOk, cmpOks, this]
theorem Sz.int {n : Nat} {i : Int} (h : i.natAbs < 2 ^ n) (hn : 0 < n) : Sz n (i : Rat) := ⟨by simpa using h, by
  simp only [Rat.den_intCast]
  exact Nat.one_lt_two_pow (by omega)⟩
def sp_24 : FSp := sp_4
theorem len_24 (ds b Q E) (h : sp_24 ds b Q E) : ds.length = 2 := len_4 ds b Q E h
theorem meets_24 {G : Gm} (h6 : G.sp 6 = sp_6) (r : G.fr 24 = false) : ∀ ds b Q E, sp_24 ds b Q E → wB G B_24 (kOf (G.fr 24) Q E) (ent N_24.length ds) b := by
  rintro ds b Q E ⟨u, l, rfl, h0, hl, hQ⟩
  unfold B_24 N_24
  trivial
  rw [h6]
  refine ⟨u, l, rfl, ?_⟩
  trivial
  have hd := gcd_small (u := u) (l := l) h0 hl
  refine L2.ite2 (fun h => ?_) fun h => ?_
  · have hd2 : DivOk (-(Int.gcd u l : Int)) := ⟨by have := hd.1; omega, by rw [Int.natAbs_neg]; exact hd.2⟩
    refine ⟨hd2, hd2, .inl ?_⟩
    have e1 : u.fdiv (-(Int.gcd u l : Int)) = (-u).fdiv (Int.gcd (-u) (-l)) := by
      rw [Int.gcd_neg, Int.neg_gcd]
      have := Int.neg_fdiv_neg (-u) (Int.gcd u l)
      rw [Int.neg_neg] at this
      exact this
    have e2 : l.fdiv (-(Int.gcd u l : Int)) = (-l).fdiv (Int.gcd (-u) (-l)) := by
      rw [Int.gcd_neg, Int.neg_gcd]
      have := Int.neg_fdiv_neg (-l) (Int.gcd u l)
      rw [Int.neg_neg] at this
      exact this
    rw [e1, e2, ← fr_mk (by omega), Rat.neg_divInt_neg]
    exact hQ
  · refine ⟨hd, hd, .inl ?_⟩
    rw [← fr_mk (by omega)]
    exact hQ
def sp_26 : FSp := fun ds b Q E => ∃ x y m : Rat, ds = [fr x, fr y, fr m] ∧ Sz 2900 x ∧ Sz 2900 y ∧ Sz 2900 m ∧ Q (fr (x + y * m)) b
theorem len_26 (ds b Q E) (h : sp_26 ds b Q E) : ds.length = 3 := by
  obtain ⟨i, j, m, rfl, _⟩ := h
  rfl
theorem divInt_am (x y m : Rat) : Rat.divInt (x.num * y.den * m.den + m.num * y.num * x.den) (x.den * y.den * m.den) = x + y * m := by
  have e : y * m = Rat.divInt (m.num * y.num) (y.den * m.den) := by
    rw [← mul_divInt, Int.mul_comm m.num]
  have e2 : x = Rat.divInt x.num x.den := (Rat.num_divInt_den x).symm
  rw [e]
  conv => rhs; rw [e2]
  rw [Rat.divInt_add_divInt _ _ (den_ne x) (Int.mul_ne_zero (den_ne y) (den_ne m))]
  congr 1 <;> grind
theorem meets_26 {G : Gm} (h24 : G.sp 24 = sp_24) (r : G.fr 26 = false) : ∀ ds b Q E, sp_26 ds b Q E → wB G B_26 (kOf (G.fr 26) Q E) (ent N_26.length ds) b := by
  rintro ds b Q E ⟨x, y, m, rfl, hx, hy, hm, hQ⟩
  unfold B_26 N_26 fr
  trivial
  rw [h24]
  have a1 := natAbs_mul_lt hx.num hy.den
  have a2 := natAbs_mul_lt hm.num hy.num
  have a3 := natAbs_mul_lt hx.den hy.den
  refine ⟨MulOk.of hx.num hy.den (by decide), MulOk.of a1 hm.den (by decide), MulOk.of hm.num hy.num (by decide), MulOk.of a2 hx.den (by decide), MulOk.of hx.den hy.den (by decide), MulOk.of a3 hm.den (by decide), _, _, rfl, Int.mul_ne_zero (Int.mul_ne_zero (den_ne x) (den_ne y)) (den_ne m), big8 a3 hm.den (by decide), .inl ?_⟩
  rw [divInt_am]
  exact hQ
def sp_29 : FSp := sp_5
theorem len_29 (ds b Q E) (h : sp_29 ds b Q E) : ds.length = 2 := len_5 ds b Q E h
theorem meets_29 {G : Gm} (r : G.fr 29 = false) : ∀ ds b Q E, sp_29 ds b Q E → wB G B_29 (kOf (G.fr 29) Q E) (ent N_29.length ds) b := by
  rintro ds b Q E ⟨x, y, rfl, hx, hy, hQ⟩
  unfold B_29 N_29 fr
  trivial
  refine ⟨MulOk.of hx.num hy.den (by decide), MulOk.of hy.num hx.den (by decide), .inl ?_⟩
  have e : decide (x.num * ↑y.den < y.num * ↑x.den) = decide (x < y) := decide_eq_decide.mpr (Rat.lt_iff x y).symm
  rw [e]
  exact hQ
/-! ### weight -/
def WOk (ws : List Int) (pt : List Rat) : Prop := (∀ k, Sz 2900 (dot (qs (ws.take k)) (pt.take k))) ∧ (∀ w ∈ ws, w.natAbs < 2 ^ 1000) ∧ ∀ a ∈ pt, Sz 2900 a
theorem dot_take : ∀ (k : Nat) (ws : List Int) (pt : List Rat), k < ws.length → k < pt.length → dot (qs (ws.take (k + 1))) (pt.take (k + 1)) = dot (qs (ws.take k)) (pt.take k) + (ws.getD k 0 : Rat) * pt.getD k 0
  | 0, w :: ws, a :: pt, _, _ => by simp [qs, LP.dot]; grind
  | k + 1, w :: ws, a :: pt, h, h' => by
    have := dot_take k ws pt (by simpa using h) (by simpa using h')
    simp only [qs] at this
    simp only [List.take_succ_cons, qs, List.map_cons, LP.dot_cons, List.getD_cons_succ]
    rw [this]
    grind
theorem qs_take (ws : List Int) (k : Nat) : qs (ws.take k) = (qs ws).take k := by simp [qs, List.map_take]
theorem dot_take_all : ∀ (as : List Rat) (xs : List Rat) (k : Nat), as.length ≤ k ∨ xs.length ≤ k → dot (as.take k) (xs.take k) = dot as xs
  | [], xs, k, _ => by simp [LP.dot_nil_l]
  | a :: as, [], k, _ => by simp [LP.dot_nil_r]
  | a :: as, x :: xs, 0, h => by simp at h
  | a :: as, x :: xs, k + 1, h => by
    simp only [List.take_succ_cons, LP.dot_cons]
    rw [dot_take_all as xs k (by simpa using h)]
theorem dot_take_end {ws : List Int} {pt : List Rat} {k : Nat} (h : ws.length ≤ k ∨ pt.length ≤ k) : dot (qs (ws.take k)) (pt.take k) = dot (qs ws) pt := by
  rw [qs_take]
  exact dot_take_all _ _ _ (by simpa [qs] using h)
theorem getD_zip' (ws : List Int) (pt : List Rat) (k : Nat) (h : k < ws.length) (h' : k < pt.length) : (ws.zip pt).getD k (0, 0) = (ws.getD k 0, pt.getD k 0) := by
  have : k < (ws.zip pt).length := by rw [List.length_zip]; omega
  simp [List.getD, h, h', List.getElem?_eq_getElem this, List.getElem_zip]
def wsD (w : D) (ws : List Int) : Prop := w = .tup (ws.map .int) ∨ w = .lst (ws.map .int)
def sp_28 : FSp := fun ds b Q E => ∃ (w : D) (ws : List Int) (pt : List Rat), ds = [w, ptD pt] ∧ wsD w ws ∧ WOk ws pt ∧ Q (fr (dot (qs ws) pt)) b
theorem len_28 (ds b Q E) (h : sp_28 ds b Q E) : ds.length = 2 := by
  obtain ⟨i, j, m, rfl, _⟩ := h
  rfl
theorem meets_28 {G : Gm} (h10 : G.sp 10 = sp_10) (h13 : G.sp 13 = sp_13) (g3 : G.gc 3 = .tup [.int 0, .int 1]) (r : G.fr 28 = false) : ∀ ds b Q E, sp_28 ds b Q E → wB G B_28 (kOf (G.fr 28) Q E) (ent N_28.length ds) b := by
  rintro ds b Q E ⟨w, ws, pt, rfl, hw, ⟨o1, o2, o3⟩, hQ⟩
  unfold B_28 N_28
  have key : wfor (fun x δ b R => binds (.pr 3 4) x δ fun δ' => wB G (.cons (.asg 2 (.call 10 (.cons (.var 2) (.cons (.call 13 (.cons (.tup (.cons (.var 3) (.cons (.cst (.int 1)) .nil))) (.cons (.var 4) .nil))) .nil)))) .nil) { (kOf (G.fr 28) Q E) with nx := R } δ' b) ((ws.zip pt).map fun p => .tup [.int p.1, fr p.2]) [.vl w, .vl (ptD pt), .vl (fr 0), .no, .no] b fun δ b => wB G (.cons (.ret (.var 2)) .nil) (kOf (G.fr 28) Q E) δ b := by
    refine wfor_idx (fun p : Int × Rat => D.tup [.int p.1, fr p.2]) (0, 0) (fun k δ b' => ∃ s t, δ = [.vl w, .vl (ptD pt), .vl (fr (dot (qs (ws.take k)) (pt.take k))), s, t] ∧ b' = b) ⟨_, _, rfl, rfl⟩ ?_ ?_
    · rintro k hk δ b' ⟨s, t, rfl, rfl⟩ R hR
      have hk' : k < ws.length ∧ k < pt.length := by rw [List.length_zip] at hk; omega
      rw [getD_zip' _ _ _ hk'.1 hk'.2]
      trivial
      rw [h13, h10, fr_int]
      have a1 := o2 _ (LP.getD_mem (d := 0) hk'.1)
      have a2 := o3 _ (LP.getD_mem (d := 0) hk'.2)
      have z1 : Sz 1000 ((ws.getD k 0 : Int) : Rat) := Sz.int a1 (by decide)
      refine ⟨_, _, rfl, z1.mono (by decide), a2.mono (by decide), _, _, rfl, (o1 k).mono (by decide), (sz_mul' z1 a2).mono (by decide), ?_⟩
      rw [← dot_take k ws pt hk'.1 hk'.2]
      exact hR _ _ ⟨_, _, rfl, rfl⟩
    · rintro δ b' ⟨s, t, rfl, rfl⟩
      trivial
      rw [dot_take_end (by simp [List.length_zip]; omega)]
      exact .inl hQ
  rcases hw with rfl | rfl
  · simp only [wB, wS, wE, wSrc, gt, st, ent, List.map, List.replicate, List.length, List.cons_append, List.nil_append, ptD, e_zipt, Nat.sub_self] at key ⊢
    rw [g3, show D.tup [.int 0, .int 1] = fr 0 from fr_int 0, zipD_map]
    exact key
  · simp only [wB, wS, wE, wSrc, gt, st, ent, List.map, List.replicate, List.length, List.cons_append, List.nil_append, ptD, e_zipl, Nat.sub_self] at key ⊢
    rw [g3, show D.tup [.int 0, .int 1] = fr 0 from fr_int 0, zipD_map]
    exact key
def sp_27 : FSp := fun ds b Q E => ∃ (w : D) (ws : List Int) (pt : List Rat), ds = [w, ptD pt] ∧ wsD w ws ∧ pt.length ≤ ws.length ∧ pt.length ≤ 1000000 ∧ WOk ws pt ∧ Q (fr (dot (qs ws) pt)) b
theorem len_27 (ds b Q E) (h : sp_27 ds b Q E) : ds.length = 2 := by
  obtain ⟨i, j, m, rfl, _⟩ := h
  rfl
theorem ix_ws {w : D} {ws : List Int} {k : Nat} {Q : D → Prop} (h : wsD w ws) (hk : k < ws.length) (q : Q (.int (ws.getD k 0))) : w2 .ix w (.int (k : Int)) Q := by
  rcases h with rfl | rfl
  · exact ix_t 0 hk q
  · exact ix_l 0 hk q
theorem meets_27 {G : Gm} (h26 : G.sp 26 = sp_26) (r : G.fr 27 = false) : ∀ ds b Q E, sp_27 ds b Q E → wB G B_27 (kOf (G.fr 27) Q E) (ent N_27.length ds) b := by
  rintro ds b Q E ⟨w, ws, pt, rfl, hw, hl, hl2, ⟨o1, o2, o3⟩, hQ⟩
  unfold B_27 N_27 ptD
  trivial
  rw [len_map, Int.toNat_natCast, show D.tup [.int 0, .int 1] = fr 0 from fr_int 0]
  refine ⟨by omega, wfor_range (fun k δ b' => ∃ s, δ = [.vl w, .vl (.lst (pt.map fr)), .vl (fr (dot (qs (ws.take k)) (pt.take k))), s] ∧ b' = b) ⟨_, rfl, rfl⟩ ?_ ?_⟩
  · rintro k hk δ b' ⟨s, rfl, rfl⟩ R hR
    trivial
    refine ix_l 0 hk (ix_ws hw (by omega) ?_)
    rw [h26, fr_int]
    have a1 := o2 _ (LP.getD_mem (d := 0) (by omega : k < ws.length))
    have a2 := o3 _ (LP.getD_mem (d := 0) hk)
    have z1 : Sz 1000 ((ws.getD k 0 : Int) : Rat) := Sz.int a1 (by decide)
    refine ⟨_, _, _, rfl, o1 k, a2.mono (by decide), z1.mono (by decide), ?_⟩
    have e := dot_take k ws pt (by omega) hk
    rw [Rat.mul_comm, ← e] 
    exact hR _ _ ⟨_, rfl, rfl⟩
  · rintro δ b' ⟨s, rfl, rfl⟩
    trivial
    rw [dot_take_end (by omega)]
    exact .inl hQ
/-! ### points -/
def sp_30 : FSp := sp_8
theorem len_30 (ds b Q E) (h : sp_30 ds b Q E) : ds.length = 1 := len_8 ds b Q E h
theorem meets_30 {G : Gm} (h3 : G.sp 3 = sp_3) (h19 : G.sp 19 = sp_19) (r : G.fr 30 = false) : ∀ ds b Q E, sp_30 ds b Q E → wB G B_30 (kOf (G.fr 30) Q E) (ent N_30.length ds) b := by
  rintro ds b Q E ⟨d, rfl, hd, hQ⟩
  have hb : isBrdD d = false := by cases d <;> first | rfl | simpa [noB1] using hd
  unfold B_30 N_30
  trivial
  refine ⟨hb, L2.ite2 (fun h => ?_) fun h => ?_⟩
  · have e : isFrac d = false := by cases d <;> first | rfl | simp [isTupD] at h
    exact .inl (by rw [e] at hQ; exact hQ)
  · have ht : ∃ es, d = .tup es := by cases d <;> first | exact ⟨_, rfl⟩ | simp [isTupD] at h
    obtain ⟨es, rfl⟩ := ht
    trivial
    refine L2.ite2 (fun h2 => ?_) fun h2 => ?_
    · have e : isFrac (.tup es) = false := by
        match es, h2 with
        | [], _ => rfl
        | [_], _ => simp [isFrac]
        | [_, _], h2 => exact absurd rfl h2
        | _ :: _ :: _ :: _, _ => simp [isFrac]
      exact .inl (by rw [e] at hQ; exact hQ)
    · have hl : es.length = 2 := by omega
      match es, hl, hd, hQ with
      | [x, y], _, hd, hQ =>
        have hx : isBrdD x = false := by simp [noB1] at hd; exact hd.1
        have hy : isBrdD y = false := by simp [noB1] at hd; exact hd.2
        trivial
        rw [h19, h3]
        refine ⟨x, rfl, hx, ?_⟩
        trivial
        refine L2.ite2 (fun q => ?_) fun q => ?_
        · have e : isFrac (.tup [x, y]) = false := by cases x <;> first | rfl | exact absurd q (by simp [isWh, isIntD, isBoolD]) | simp [isFrac]
          exact .inl (by rw [e] at hQ; exact hQ)
        · obtain ⟨u, rfl⟩ := isWh_int (by simpa using q)
          refine ⟨y, rfl, hy, ?_⟩
          trivial
          refine L2.ite2 (fun q => ?_) fun q => ?_
          · have e : isFrac (.tup [.int u, y]) = false := by cases y <;> first | rfl | exact absurd q (by simp [isWh, isIntD, isBoolD]) | simp [isFrac]
            exact .inl (by rw [e] at hQ; exact hQ)
          · obtain ⟨l, rfl⟩ := isWh_int (by simpa using q)
            trivial
            refine L2.ite2 (fun q => ?_) fun q => ?_
            · have e : isFrac (.tup [.int u, .int l]) = false := by
                simp [isFrac]
                omega
              exact .inl (by rw [e] at hQ; exact hQ)
            · refine ⟨u, l, rfl, ?_⟩
              trivial
              left
              have e : isFrac (.tup [.int u, .int l]) = decide (((Int.gcd u l : Nat) : Int) = 1) := by
                have hl1 : (1 : Int) ≤ l := by omega
                show (decide (1 ≤ l) && decide (Int.gcd u l = 1)) = _
                rw [decide_eq_true hl1, Bool.true_and]
                exact decide_eq_decide.mpr (by omega)
              rw [e] at hQ
              exact hQ
theorem isFrac_iff {d : D} : isFrac d = true ↔ ∃ r : Rat, d = fr r := by
  constructor
  · intro h
    match d, h with
    | .tup [.int u, .int l], h =>
      simp only [isFrac, Bool.and_eq_true, decide_eq_true_eq] at h
      refine ⟨⟨u, l.toNat, by omega, ?_⟩, ?_⟩
      · have := h.2
        unfold Int.gcd at this
        rw [show l.toNat = l.natAbs by omega]
        exact this
      · unfold fr
        rw [show ((l.toNat : Nat) : Int) = l by omega]
  · rintro ⟨r, rfl⟩
    exact isFrac_fr r
theorem clD_noB1 {d : D} (h : clD d = true) : noB1 d = true := by
  cases d with
  | tup ds =>
    simp only [noB1, List.all_eq_true]
    intro x hx
    rw [clD_brd (clDs_mem (show clDs ds = true from h) x hx)]
    rfl
  | _ => simp [noB1, clD_brd h]
def sp_31 : FSp := fun ds b Q E => ∃ (n : Int) (d : D), ds = [.int n, d] ∧ clD d = true ∧ (∀ pt : List Rat, d = ptD pt → (pt.length : Int) = n → Q d b) ∧ ((¬ ∃ pt : List Rat, d = ptD pt ∧ (pt.length : Int) = n) → E 2)
theorem len_31 (ds b Q E) (h : sp_31 ds b Q E) : ds.length = 2 := by
  obtain ⟨i, j, rfl, _⟩ := h
  rfl
theorem fracs_pt : ∀ es : List D, (∀ x ∈ es, isFrac x = true) → ∃ pt : List Rat, es = pt.map fr
  | [], _ => ⟨[], rfl⟩
  | x :: es, h => by
    obtain ⟨r, e⟩ := isFrac_iff.mp (h x (by simp))
    obtain ⟨pt, e2⟩ := fracs_pt es fun y hy => h y (by simp [hy])
    exact ⟨r :: pt, by rw [e, e2]; rfl⟩
theorem meets_31 {G : Gm} (h30 : G.sp 30 = sp_30) (r : G.fr 31 = false) : ∀ ds b Q E, sp_31 ds b Q E → wB G B_31 (kOf (G.fr 31) Q E) (ent N_31.length ds) b := by
  rintro ds b Q E ⟨n, d, rfl, hc, hQ, hE⟩
  unfold B_31 N_31
  trivial
  refine ⟨clD_brd hc, L2.ite2 (fun h => hE ?_) fun h => ?_⟩
  · rintro ⟨pt, rfl, _⟩
    exact absurd h (by simp [ptD, isLstD])
  have ht : ∃ es, d = .lst es := by cases d <;> first | exact ⟨_, rfl⟩ | exact Bool.noConfusion hc | exact absurd h (by simp [isLstD])
  obtain ⟨es, rfl⟩ := ht
  trivial
  refine L2.ite2 (fun h4 => hE ?_) fun h4 => ?_
  · rintro ⟨pt, e, q⟩
    cases e
    rw [List.length_map] at h4
    exact h4 q
  rw [← List.map_id es]
  refine wfor_map id (fun pre δ b' => (∃ s, δ = [.vl (.int n), .vl (.lst (es.map id)), s]) ∧ b' = b ∧ ∀ x ∈ pre, isFrac x = true) ⟨⟨_, rfl⟩, rfl, by simp⟩ ?_ ?_
  · rintro pre x post e δ b' ⟨⟨s, rfl⟩, rfl, hp⟩ R hR
    trivial
    rw [h30]
    have hx : x ∈ es := by rw [e]; simp
    refine ⟨x, rfl, clD_noB1 (clDs_mem (show clDs es = true from hc) x hx), ?_⟩
    trivial
    refine L2.ite2 (fun q => hE ?_) fun q => ?_
    · rintro ⟨pt, e2, _⟩
      cases e2
      obtain ⟨y, hy, rfl⟩ := List.mem_map.mp hx
      rw [isFrac_fr] at q
      cases q
    · refine hR _ _ ⟨⟨_, rfl⟩, rfl, fun y hy => ?_⟩
      rcases List.mem_append.mp hy with h5 | h5
      · exact hp y h5
      · simp at h5
        subst h5
        simpa using q
  · rintro δ b' ⟨⟨s, rfl⟩, rfl, hp⟩
    trivial
    obtain ⟨pt, rfl⟩ := fracs_pt es hp
    rw [List.map_id]
    exact .inl (hQ pt rfl (by rw [List.length_map] at h4; omega))
end LK

namespace LK
open PySem
local macro_rules | `(tactic| trivial) => `(tactic| (try simp only [ent, List.length, List.map, List.replicate, List.cons_append, List.nil_append, Nat.sub_self, Nat.add_one_sub_one, Nat.reduceAdd, Nat.reduceSub]) <;> try simp only [wB, wS, wE, wEs, wO, wC, wSrc, e_neg, e_abs, e_lent, e_lenl, e_lens, e_lenS, e_tupt, e_tupl, e_lstt, e_lstl, e_inti, e_intb, e_str, e_isInt, e_isBool, e_isTup, e_isLst, e_isStr, e_isN, e_notN, e_add, e_sub, e_mul, e_fdiv, e_mod, e_pow, e_lt, e_le, e_gt, e_ge, e_eqi, e_nei, e_cat, e_tcat, e_ixl, e_ixs, e_ixt0, e_ixt1, e_ixt2, e_max, e_min, e_test, e_seql, e_seqt, e_seqs, e_rng, e_rng2, e_zipl, e_zipt, e_ziptt, e_sll, e_slt, e_sls, e_nm, e_pr, gt, st, ent, List.map, List.replicate, List.length, List.cons_append, List.nil_append, kOf, Nat.sub_self, Nat.add_one_sub_one, Nat.reduceAdd, Nat.reduceSub, reduceCtorEq, decide_eq_true_eq, Bool.not_eq_true', decide_eq_false_iff_not, if_true, if_false, Bool.false_eq_true, ite_true, ite_false])
section
variable {l : Lim} {r : Rat} {n : Nat} {L : List Lim} {Q : D → Prop}
theorem e_limT0 : w2 .ix (limT l) (.int 0) Q = Q (.tup (l.1.map .int)) := e_ixt0
theorem e_limT1 : w2 .ix (limT l) (.int 1) Q = Q (.int l.2) := e_ixt1
theorem e_limL0 : w2 .ix (limL l) (.int 0) Q = Q (.lst (l.1.map .int)) := e_ixt0
theorem e_limL1 : w2 .ix (limL l) (.int 1) Q = Q (.int l.2) := e_ixt1
theorem e_fr0 : w2 .ix (fr r) (.int 0) Q = Q (.int r.num) := e_ixt0
theorem e_fr1 : w2 .ix (fr r) (.int 1) Q = Q (.int r.den) := e_ixt1
theorem e_dk0 : w2 .ix (deskD n L) (.int 0) Q = Q (.int n) := e_ixt0
theorem e_dk1 : w2 .ix (deskD n L) (.int 1) Q = Q (.tup (L.map limT)) := e_ixt1
theorem e_ptlen {pt : List Rat} : w1 .len (ptD pt) Q = Q (.int pt.length) := by
  show Q (.int ((pt.map fr).length : Nat)) = _
  rw [List.length_map]
theorem e_ptlst {pt : List Rat} : w1 .lstO (ptD pt) Q = Q (ptD pt) := rfl
end
end LK

namespace LK
open PySem
local macro_rules | `(tactic| trivial) => `(tactic| (try simp only [ent, List.length, List.map, List.replicate, List.cons_append, List.nil_append, Nat.sub_self, Nat.add_one_sub_one, Nat.reduceAdd, Nat.reduceSub]) <;> try simp only [wB, wS, wE, wEs, wO, wC, wSrc, e_limT0, e_limT1, e_limL0, e_limL1, e_fr0, e_fr1, e_dk0, e_dk1, e_ptlen, e_ptlst, len_map, Int.toNat_natCast, e_slt, e_tcat, e_neg, e_abs, e_lent, e_lenl, e_lens, e_lenS, e_tupt, e_tupl, e_lstt, e_lstl, e_inti, e_intb, e_str, e_isInt, e_isBool, e_isTup, e_isLst, e_isStr, e_isN, e_notN, e_add, e_sub, e_mul, e_fdiv, e_mod, e_pow, e_lt, e_le, e_gt, e_ge, e_eqi, e_nei, e_cat, e_tcat, e_ixl, e_ixs, e_ixt0, e_ixt1, e_ixt2, e_max, e_min, e_test, e_seql, e_seqt, e_seqs, e_rng, e_rng2, e_zipl, e_zipt, e_ziptt, e_sll, e_slt, e_sls, e_nm, e_pr, gt, st, ent, List.map, List.replicate, List.length, List.cons_append, List.nil_append, kOf, Nat.sub_self, Nat.add_one_sub_one, Nat.reduceAdd, Nat.reduceSub, reduceCtorEq, decide_eq_true_eq, Bool.not_eq_true', decide_eq_false_iff_not, if_true, if_false, Bool.false_eq_true, ite_true, ite_false])
open LP (dot qs)
def natsD (ks : List Nat) : D := .lst (ks.map fun k : Nat => .int (k : Int))
def brkB (L : List Lim) (pt : List Rat) (k : Nat) : Bool := decide ((((L.getD k ([], 0)).2 : Int) : Rat) < dot (qs (L.getD k ([], 0)).1) pt)
def jstB (L : List Lim) (pt : List Rat) (k : Nat) : Bool := decide (dot (qs (L.getD k ([], 0)).1) pt = (((L.getD k ([], 0)).2 : Int) : Rat))
def brk (L : List Lim) (pt : List Rat) : List Nat := (List.range L.length).filter (brkB L pt)
def jst (L : List Lim) (pt : List Rat) : List Nat := (List.range L.length).filter (jstB L pt)
def LOk (L : List Lim) (pt : List Rat) : Prop := ∀ l ∈ L, WOk l.1 pt ∧ l.2.natAbs < 2 ^ 1000
theorem WOk.sz {ws : List Int} {pt : List Rat} (h : WOk ws pt) : Sz 2900 (dot (qs ws) pt) := by
  have := h.1 (ws.length + pt.length)
  rwa [dot_take_end (by omega)] at this
def sp_pl (f : List Lim → List Rat → List Nat) : FSp := fun ds b Q E => ∃ (n : Nat) (L : List Lim) (d : D), ds = [deskD n L, d] ∧ clD d = true ∧ L.length ≤ 100000 ∧ (∀ pt, d = ptD pt → pt.length = n → LOk L pt ∧ Q (natsD (f L pt)) b) ∧ ((¬ ∃ pt : List Rat, d = ptD pt ∧ pt.length = n) → E 2)
def sp_32 : FSp := sp_pl brk
def sp_33 : FSp := sp_pl jst
theorem len_32 (ds b Q E) (h : sp_32 ds b Q E) : ds.length = 2 := by
  obtain ⟨i, j, d, rfl, _⟩ := h
  rfl
theorem len_33 (ds b Q E) (h : sp_33 ds b Q E) : ds.length = 2 := by
  obtain ⟨i, j, d, rfl, _⟩ := h
  rfl
theorem filt_succ (p : Nat → Bool) (k : Nat) : (List.range (k + 1)).filter p = (List.range k).filter p ++ if p k then [k] else [] := by
  rw [List.range_succ, List.filter_append]
  congr 1
  cases h : p k <;> simp [h]
theorem filt_len (p : Nat → Bool) (k : Nat) : ((List.range k).filter p).length ≤ k := by
  have := List.length_filter_le p (List.range k)
  rwa [List.length_range] at this
theorem meets_32 {G : Gm} (h5 : G.sp 5 = sp_5) (h28 : G.sp 28 = sp_28) (h31 : G.sp 31 = sp_31) (r : G.fr 32 = false) : ∀ ds b Q E, sp_32 ds b Q E → wB G B_32 (kOf (G.fr 32) Q E) (ent N_32.length ds) b := by
  rintro ds b Q E ⟨n, L, d, rfl, hc, hL, hQ, hE⟩
  unfold B_32 N_32
  trivial
  rw [h5, h28, h31]
  refine ⟨n, d, rfl, hc, fun pt e hl => ?_, fun hn => hE fun ⟨pt, e, q⟩ => hn ⟨pt, e, by omega⟩⟩
  subst e
  obtain ⟨hok, hQ⟩ := hQ pt rfl (by omega)
  trivial
  refine ⟨by omega, wfor_range (fun k δ b' => ∃ s, δ = [.vl (deskD n L), .vl (ptD pt), .ow (((List.range k).filter (brkB L pt)).map fun k : Nat => .int (k : Int)), s] ∧ b' = b) ⟨_, rfl, rfl⟩ ?_ ?_⟩
  · rintro k hk δ b' ⟨s, rfl, rfl⟩ R hR
    trivial
    refine ix_t ([], 0) hk ?_
    have hl := hok _ (LP.getD_mem (d := ([], 0)) hk)
    trivial
    refine ix_t ([], 0) hk ?_
    trivial
    refine ⟨_, _, _, rfl, .inl rfl, hl.1, ?_⟩
    rw [fr_int]
    refine ⟨_, _, rfl, Sz.mono (Sz.int hl.2 (by decide)) (by decide), hl.1.sz.mono (by decide), ?_⟩
    trivial
    refine L2.ite2 (fun q => ⟨?_, hR _ _ ⟨.vl (.int k), ?_, rfl⟩⟩) fun q => hR _ _ ⟨.vl (.int k), ?_, rfl⟩
    · rw [List.length_map]
      have := filt_len (brkB L pt) k
      omega
    · rw [filt_succ, if_pos (show brkB L pt k = true from decide_eq_true q), List.map_append]
      rfl
    · rw [filt_succ, if_neg (by simpa [brkB] using q), List.append_nil]
  · rintro δ b' ⟨s, rfl, rfl⟩
    trivial
    exact .inl hQ
theorem meets_33 {G : Gm} (h28 : G.sp 28 = sp_28) (h31 : G.sp 31 = sp_31) (r : G.fr 33 = false) : ∀ ds b Q E, sp_33 ds b Q E → wB G B_33 (kOf (G.fr 33) Q E) (ent N_33.length ds) b := by
  rintro ds b Q E ⟨n, L, d, rfl, hc, hL, hQ, hE⟩
  unfold B_33 N_33
  trivial
  rw [h28, h31]
  refine ⟨n, d, rfl, hc, fun pt e hl => ?_, fun hn => hE fun ⟨pt, e, q⟩ => hn ⟨pt, e, by omega⟩⟩
  subst e
  obtain ⟨hok, hQ⟩ := hQ pt rfl (by omega)
  trivial
  refine ⟨by omega, wfor_range (fun k δ b' => ∃ s, δ = [.vl (deskD n L), .vl (ptD pt), .ow (((List.range k).filter (jstB L pt)).map fun k : Nat => .int (k : Int)), s] ∧ b' = b) ⟨_, rfl, rfl⟩ ?_ ?_⟩
  · rintro k hk δ b' ⟨s, rfl, rfl⟩ R hR
    trivial
    refine ix_t ([], 0) hk ?_
    have hl := hok _ (LP.getD_mem (d := ([], 0)) hk)
    trivial
    refine ⟨_, _, _, rfl, .inl rfl, hl.1, ?_⟩
    refine ix_t ([], 0) hk ?_
    trivial
    rw [fr_int]
    refine q_eqf ?_
    trivial
    refine L2.ite2 (fun q => ⟨?_, hR _ _ ⟨.vl (.int k), ?_, rfl⟩⟩) fun q => hR _ _ ⟨.vl (.int k), ?_, rfl⟩
    · rw [List.length_map]
      have := filt_len (jstB L pt) k
      omega
    · rw [filt_succ, if_pos (show jstB L pt k = true from decide_eq_true q), List.map_append]
      rfl
    · rw [filt_succ, if_neg (by simpa [jstB] using q), List.append_nil]
  · rintro δ b' ⟨s, rfl, rfl⟩
    trivial
    exact .inl hQ
/-! ### the law's desks and points -/
theorem cell_ok {s : D} {ns : List Int} (hs : isScr s ns) {k : Int} (hk : 0 ≤ k) {Q : D → Ob → Prop} {b : Ob} {E : Nat → Prop} (h : ∀ c : Int, Q (.int c) b) : sp_1 [s, .int k] b Q E := ⟨s, ns, k, rfl, hs, hk, h⟩
/-- numbers, places -/
def DP (k m w : Int) : Prop := (1 ≤ k ∧ k ≤ 3 ∧ 0 ≤ m ∧ m ≤ 5 ∧ 0 ≤ w ∧ w ≤ 9) ∨ (k = 4 ∧ m = 10 ∧ w = 2) ∨ (1 ≤ k ∧ k ≤ 2 ∧ 0 ≤ m ∧ m ≤ 3 ∧ w = 999999999999)
/-- a drawn desk -/
def DD (n : Nat) (L : List Lim) : Prop := LP.Wf n L ∧ ∃ M : Nat, LP.LimB M L ∧ ((1 ≤ n ∧ n ≤ 3 ∧ L.length ≤ 5 ∧ M = 9) ∨ (n = 4 ∧ L.length = 10 ∧ M = 2) ∨ (1 ≤ n ∧ n ≤ 2 ∧ L.length ≤ 3 ∧ M = 999999999999))
theorem DD.valid {n : Nat} {L : List Lim} (h : DD n L) : Valid n L := by
  obtain ⟨w, M, hM, h⟩ := h
  have hM' : M ≤ 999999999999 := by omega
  have sm : ∀ i : Int, i.natAbs ≤ M → sml i = true := fun i hi => by
    unfold sml
    rw [Bool.and_eq_true, decide_eq_true_eq, decide_eq_true_eq]
    omega
  refine ⟨by omega, by omega, by omega, w, fun l hl => ⟨?_, sm _ (hM l hl).2⟩⟩
  rw [List.all_eq_true]
  exact fun i hi => sm _ ((hM l hl).1 i hi)
def sp_16 : FSp := fun ds b Q E => ∃ (s : D) (ns : List Int), ds = [s] ∧ isScr s ns ∧ ∀ n L, DD n L → Q (.tup [.int (n : Nat), .lst (L.map limL)]) b
theorem len_16 (ds b Q E) (h : sp_16 ds b Q E) : ds.length = 1 := by
  obtain ⟨i, j, rfl, _⟩ := h
  rfl
theorem mod_lt' {c m : Int} (h : 0 < m) : 0 ≤ c.fmod m ∧ c.fmod m < m := by
  rw [fmod_pos h]
  exact ⟨Int.emod_nonneg _ (by omega), Int.emod_lt_of_pos _ h⟩
/-- one of four -/
theorem atI_four {c : Int} {x y z w : D} {P : D → Prop} (hx : P x) (hy : P y) (hz : P z) (hw : P w) : ∃ d, L2.atI [x, y, z, w] (c.fmod 4) = some d ∧ P d := by
  obtain ⟨h1, h2⟩ := mod_lt' (c := c) (m := 4) (by decide)
  generalize c.fmod 4 = e at h1 h2
  have h3 : e = 0 ∨ e = 1 ∨ e = 2 ∨ e = 3 := by omega
  rcases h3 with h | h | h | h <;> rw [h]
  · exact ⟨x, rfl, hx⟩
  · exact ⟨y, rfl, hy⟩
  · exact ⟨z, rfl, hz⟩
  · exact ⟨w, rfl, hw⟩
theorem LimB.app {M : Nat} {L : List Lim} {l : Lim} (h : LP.LimB M L) (h1 : ∀ a ∈ l.1, a.natAbs ≤ M) (h2 : l.2.natAbs ≤ M) : LP.LimB M (L ++ [l]) := fun x hx => by
  rcases List.mem_append.mp hx with q | q
  · exact h x q
  · simp at q
    subst q
    exact ⟨h1, h2⟩
end LK

namespace LK
open PySem
local macro_rules | `(tactic| trivial) => `(tactic| (try simp only [ent, List.length, List.map, List.replicate, List.cons_append, List.nil_append, Nat.sub_self, Nat.add_one_sub_one, Nat.reduceAdd, Nat.reduceSub]) <;> try simp only [wB, wS, wE, wEs, wO, wC, wSrc, e_limT0, e_limT1, e_limL0, e_limL1, e_fr0, e_fr1, e_dk0, e_dk1, e_ptlen, e_ptlst, len_map, Int.toNat_natCast, e_slt, e_tcat, e_neg, e_abs, e_lent, e_lenl, e_lens, e_lenS, e_tupt, e_tupl, e_lstt, e_lstl, e_inti, e_intb, e_str, e_isInt, e_isBool, e_isTup, e_isLst, e_isStr, e_isN, e_notN, e_add, e_sub, e_mul, e_fdiv, e_mod, e_pow, e_lt, e_le, e_gt, e_ge, e_eqi, e_nei, e_cat, e_tcat, e_ixl, e_ixs, e_ixt0, e_ixt1, e_ixt2, e_max, e_min, e_test, e_seql, e_seqt, e_seqs, e_rng, e_rng2, e_zipl, e_zipt, e_ziptt, e_sll, e_slt, e_sls, e_nm, e_pr, gt, st, ent, List.map, List.replicate, List.length, List.cons_append, List.nil_append, kOf, Nat.sub_self, Nat.add_one_sub_one, Nat.reduceAdd, Nat.reduceSub, reduceCtorEq, decide_eq_true_eq, Bool.not_eq_true', decide_eq_false_iff_not, if_true, if_false, Bool.false_eq_true, ite_true, ite_false])
open LP (dot qs)
theorem meets_16 {G : Gm} (h0 : G.sp 0 = sp_0) (h1 : G.sp 1 = sp_1) (r : G.fr 16 = false) : ∀ ds b Q E, sp_16 ds b Q E → wB G B_16 (kOf (G.fr 16) Q E) (ent N_16.length ds) b := by
  rintro ds b Q E ⟨s, ns, rfl, hs, hQ⟩
  refine wB_split 5 ?_
  have tail : ∀ k m w : Int, DP k m w → wB G (dp 5 B_16) (kOf (G.fr 16) Q E) [.vl s, .vl (.int k), .vl (.int m), .vl (.int w), .no, .no, .no, .no, .no, .no] b := fun k m w hd => by
    simp only [B_16, dp]
    trivial
    have hm : 0 ≤ m ∧ m ≤ 10 := by unfold DP at hd; omega
    have hk : 1 ≤ k ∧ k ≤ 4 := by unfold DP at hd; omega
    have hw : 0 ≤ w ∧ w ≤ 999999999999 := by unfold DP at hd; omega
    refine ⟨by omega, wfor_range (fun j δ b' => ∃ (L : List Lim) (s1 s2 s3 s4 : Sl), δ = [.vl s, .vl (.int k), .vl (.int m), .vl (.int w), .ow (L.map limL), s1, s2, s3, s4, .no] ∧ b' = b ∧ L.length = j ∧ LP.Wf k.toNat L ∧ LP.LimB w.toNat L) ⟨[], _, _, _, _, rfl, rfl, rfl, fun _ h => by simp at h, fun _ h => by simp at h⟩ ?_ ?_⟩
    · rintro j hj δ b' ⟨L, s1, s2, s3, s4, rfl, rfl, hl, wf, lb⟩ R hR
      trivial
      rw [h0, h1]
      have hp : 0 ≤ (j : Int) * (k + 1) := Int.mul_nonneg (by omega) (by omega)
      refine ⟨MulOk.l (by omega), ⟨by omega, by omega⟩, ?_⟩
      have hk2 : k.toNat ≤ 1000000 := by omega
      refine ⟨by simp [rngD]; omega, wmap_rangeP (β := Int) D.int (fun _ i => -w ≤ i ∧ i ≤ w) (fun q hq R2 hR2 => ?_) fun ys yl yp => ?_⟩
      · trivial
        refine cell_ok hs (by omega) fun c => ?_
        trivial
        exact ⟨_, _, rfl, hw.1, fun i h1 h2 => hR2 i ⟨h1, h2⟩⟩
      refine cell_ok hs (by omega) fun c => ?_
      trivial
      refine ⟨_, _, rfl, hw.1, fun i h1 h2 => ?_⟩
      trivial
      have ya : ∀ a ∈ ys, a.natAbs ≤ w.toNat := fun a ha => by
        obtain ⟨q, hq, e⟩ := List.mem_iff_getElem.mp ha
        have := yp q a (by rw [List.getElem?_eq_getElem hq, e])
        omega
      refine cell_ok hs (by decide) fun c => ⟨by decide, ?_⟩
      trivial
      refine L2.ite2 (fun _ => ⟨by rw [List.length_map]; omega, hR _ _ ⟨L ++ [(ys, (i.natAbs : Int))], .vl (.int j), .vl (.int (8 + j * (k + 1))), .vl (.lst (ys.map .int)), .vl (.int i.natAbs), ?_, rfl, by simp [hl], ?_, ?_⟩⟩) fun _ => ⟨by rw [List.length_map]; omega, hR _ _ ⟨L ++ [(ys, i)], .vl (.int j), .vl (.int (8 + j * (k + 1))), .vl (.lst (ys.map .int)), .vl (.int i), ?_, rfl, by simp [hl], ?_, ?_⟩⟩
      · rw [List.map_append]; rfl
      · intro l hl'
        rcases List.mem_append.mp hl' with q | q
        · exact wf l q
        · simp at q; subst q; exact yl
      · exact LimB.app lb ya (by show (i.natAbs : Int).natAbs ≤ _; omega)
      · rw [List.map_append]; rfl
      · intro l hl'
        rcases List.mem_append.mp hl' with q | q
        · exact wf l q
        · simp at q; subst q; exact yl
      · exact LimB.app lb ya (by show i.natAbs ≤ _; omega)
    · rintro δ b' ⟨L, s1, s2, s3, s4, rfl, rfl, hl, wf, lb⟩
      trivial
      have e : D.int k = .int (k.toNat : Nat) := by congr 1; omega
      rw [e]
      have lm : ∀ M : Nat, w.toNat ≤ M → LP.LimB M L := fun M h l hl => ⟨fun a ha => Nat.le_trans ((lb l hl).1 a ha) h, Nat.le_trans (lb l hl).2 h⟩
      unfold DP at hd
      refine .inl (hQ k.toNat L ⟨wf, ?_⟩)
      rcases hd with h | h | h
      · exact ⟨9, lm _ (by omega), .inl ⟨by omega, by omega, by omega, rfl⟩⟩
      · exact ⟨2, lm _ (by omega), .inr (.inl ⟨by omega, by omega, rfl⟩)⟩
      · exact ⟨999999999999, lm _ (by omega), .inr (.inr ⟨by omega, by omega, by omega, rfl⟩)⟩
  obtain ⟨T, hT⟩ : ∃ T, T = dp 5 B_16 := ⟨_, rfl⟩
  rw [← hT] at tail ⊢
  unfold B_16 N_16
  simp only [tk]
  trivial
  rw [h1]
  refine cell_ok hs (by decide) fun c0 => ?_
  trivial
  refine ⟨by decide, cell_ok hs (by decide) fun c1 => ?_⟩
  trivial
  refine ⟨by decide, by decide, cell_ok hs (by decide) fun c2 => ?_⟩
  trivial
  refine ⟨by decide, ?_⟩
  obtain ⟨a1, a2⟩ := mod_lt' (c := c0) (m := 3) (by decide)
  obtain ⟨a3, a4⟩ := mod_lt' (c := c1) (m := 6) (by decide)
  obtain ⟨d, hd, w, rfl, hw⟩ := atI_four (c := c2) (x := .int 3) (y := .int 3) (z := .int 9) (w := .int (10 ^ Int.toNat 12 - 1)) (P := fun d => ∃ w : Int, d = .int w ∧ (w = 3 ∨ w = 9 ∨ w = 999999999999)) ⟨_, rfl, .inl rfl⟩ ⟨_, rfl, .inl rfl⟩ ⟨_, rfl, .inr (.inl rfl)⟩ ⟨_, rfl, .inr (.inr (by decide))⟩
  refine ⟨_, hd, cell_ok hs (by decide) fun c3 => ?_⟩
  trivial
  refine ⟨by decide, ?_⟩
  refine L2.ite2 (fun _ => ?_) fun _ => ?_
  · rw [if_neg (by decide)]
    exact tail _ _ _ (.inr (.inl ⟨rfl, rfl, rfl⟩))
  · refine L2.ite2 (fun hw9 => ?_) fun hw9 => tail _ _ _ (.inl ⟨by omega, by omega, by omega, by omega, by omega, by omega⟩)
    obtain ⟨a5, a6⟩ := mod_lt' (c := 1 + c0.fmod 3) (m := 2) (by decide)
    obtain ⟨a7, a8⟩ := mod_lt' (c := c1.fmod 6) (m := 4) (by decide)
    exact ⟨by decide, by decide, tail _ _ _ (.inr (.inr ⟨by omega, by omega, by omega, by omega, by omega⟩))⟩
end LK

namespace LK
open PySem
local macro_rules | `(tactic| trivial) => `(tactic| (try simp only [ent, List.length, List.map, List.replicate, List.cons_append, List.nil_append, Nat.sub_self, Nat.add_one_sub_one, Nat.reduceAdd, Nat.reduceSub]) <;> try simp only [wB, wS, wE, wEs, wO, wC, wSrc, e_limT0, e_limT1, e_limL0, e_limL1, e_fr0, e_fr1, e_dk0, e_dk1, e_ptlen, e_ptlst, len_map, Int.toNat_natCast, e_slt, e_tcat, e_neg, e_abs, e_lent, e_lenl, e_lens, e_lenS, e_tupt, e_tupl, e_lstt, e_lstl, e_inti, e_intb, e_str, e_isInt, e_isBool, e_isTup, e_isLst, e_isStr, e_isN, e_notN, e_add, e_sub, e_mul, e_fdiv, e_mod, e_pow, e_lt, e_le, e_gt, e_ge, e_eqi, e_nei, e_cat, e_tcat, e_ixl, e_ixs, e_ixt0, e_ixt1, e_ixt2, e_max, e_min, e_test, e_seql, e_seqt, e_seqs, e_rng, e_rng2, e_zipl, e_zipt, e_ziptt, e_sll, e_slt, e_sls, e_nm, e_pr, gt, st, ent, List.map, List.replicate, List.length, List.cons_append, List.nil_append, kOf, Nat.sub_self, Nat.add_one_sub_one, Nat.reduceAdd, Nat.reduceSub, reduceCtorEq, decide_eq_true_eq, Bool.not_eq_true', decide_eq_false_iff_not, if_true, if_false, Bool.false_eq_true, ite_true, ite_false])
open LP (dot qs)
/-- amounts of the law's points -/
def SmA (a : Rat) : Prop := ∃ u l : Int, u.natAbs ≤ 12 ∧ 1 ≤ l ∧ l ≤ 5 ∧ a = Rat.divInt u l
def sp_25 : FSp := fun ds b Q E => ∃ (s : D) (ns : List Int) (n : Nat), ds = [s, .int n] ∧ isScr s ns ∧ n ≤ 1000 ∧ ∀ pt : List Rat, pt.length = n → (∀ a ∈ pt, SmA a) → Q (ptD pt) b
theorem len_25 (ds b Q E) (h : sp_25 ds b Q E) : ds.length = 2 := by
  obtain ⟨i, j, d, rfl, _⟩ := h
  rfl
theorem meets_25 {G : Gm} (h0 : G.sp 0 = sp_0) (h1 : G.sp 1 = sp_1) (h24 : G.sp 24 = sp_24) (r : G.fr 25 = false) : ∀ ds b Q E, sp_25 ds b Q E → wB G B_25 (kOf (G.fr 25) Q E) (ent N_25.length ds) b := by
  rintro ds b Q E ⟨s, ns, n, rfl, hs, hn, hQ⟩
  unfold B_25 N_25
  trivial
  refine ⟨by omega, wfor_range (fun j δ b' => ∃ (pt : List Rat) (s1 s2 : Sl), δ = [.vl s, .vl (.int n), .ow (pt.map fr), s1, s2] ∧ b' = b ∧ pt.length = j ∧ ∀ a ∈ pt, SmA a) ⟨[], _, _, rfl, rfl, rfl, by simp⟩ ?_ ?_⟩
  · rintro j hj δ b' ⟨pt, s1, s2, rfl, rfl, hl, hp⟩ R hR
    trivial
    rw [h0, h1, h24]
    refine cell_ok hs (by omega) fun c0 => ?_
    trivial
    refine ⟨by decide, cell_ok hs (by omega) fun c1 => ?_⟩
    obtain ⟨a1, a2⟩ := mod_lt' (c := c0) (m := 5) (by decide)
    refine ⟨_, _, rfl, by decide, fun u hu1 hu2 => ?_⟩
    refine ⟨_, _, rfl, by omega, Nat.lt_of_lt_of_le (show (1 + c0.fmod 5).natAbs < 2 ^ 3 by omega) (Nat.pow_le_pow_right (by decide) (by decide)), ?_⟩
    refine ⟨by rw [List.length_map]; omega, hR _ _ ⟨pt ++ [Rat.divInt u (1 + c0.fmod 5)], .vl (.int j), .vl (.int (1 + c0.fmod 5)), ?_, rfl, by simp [hl], fun a ha => ?_⟩⟩
    · rw [List.map_append]; rfl
    · rcases List.mem_append.mp ha with q | q
      · exact hp a q
      · simp at q
        subst q
        exact ⟨u, _, by omega, by omega, by omega, rfl⟩
  · rintro δ b' ⟨pt, s1, s2, rfl, rfl, hl, hp⟩
    trivial
    exact .inl (hQ pt hl hp)
/-! ### sizes of small weights -/
theorem Sz.ofD {h : Nat} {u D : Int} (h0 : D ≠ 0) (hu : u.natAbs < 2 ^ h) (hD : D.natAbs < 2 ^ h) : Sz h ((u : Rat) / (D : Rat)) := by
  have e : ((u : Rat) / (D : Rat)) = Rat.divInt u D := by rw [Rat.divInt_eq_div]
  rw [e]
  exact sz_divInt h0 hu hD
theorem Sz.fz {h : Nat} {r : Rat} (f : LP.Fz h r) : Sz h r := by
  obtain ⟨u, D, h1, h2, h3, rfl⟩ := f
  exact Sz.ofD h1 h2 h3
/-- a point with one lower number, weights that are bounded -/
theorem WOk.of {ws : List Int} {pt : List Rat} {h m : Nat} (p : LP.PtSz h pt) (hw : ∀ w ∈ ws, w.natAbs < 2 ^ m) (hm : m ≤ 900) (hh : h ≤ 1790) (hl : pt.length ≤ 2 ^ 100) : WOk ws pt := by
  obtain ⟨D, h0, hD, hp⟩ := p
  have up : ∀ {i n : Nat}, i < 2 ^ n → n ≤ 1000 → i < 2 ^ 1000 := fun h q => Nat.lt_of_lt_of_le h (Nat.pow_le_pow_right (by decide) q)
  refine ⟨fun k => ?_, fun w hw' => up (hw w hw') (by omega), fun a ha => ?_⟩
  · have o := LP.OfD.dot (g := ws.take k) (xs := pt.take k) (D := D) (b := 2 ^ h) (m := 2 ^ m) (fun a ha => Nat.le_of_lt (hw a (List.mem_of_mem_take ha))) fun x hx => by
      obtain ⟨u, h1, h2⟩ := hp x (List.mem_of_mem_take hx)
      exact ⟨u, Nat.le_of_lt h1, h2⟩
    obtain ⟨u, h1, h2⟩ := o
    rw [h2]
    have hl2 : (pt.take k).length ≤ 2 ^ 100 := Nat.le_trans (List.length_take_le' k pt) hl
    have h3 : u.natAbs ≤ 2 ^ 100 * (2 ^ m * 2 ^ h) := Nat.le_trans h1 (Nat.mul_le_mul_right _ hl2)
    rw [← Nat.pow_add, ← Nat.pow_add] at h3
    have h4 : u.natAbs < 2 ^ 2900 := Nat.lt_of_le_of_lt h3 (Nat.pow_lt_pow_right (by decide) (by omega))
    exact Sz.ofD h0 h4 (Nat.lt_of_lt_of_le hD (Nat.pow_le_pow_right (by decide) (by omega)))
  · obtain ⟨u, h1, h2⟩ := hp a ha
    rw [h2]
    exact (Sz.ofD h0 h1 hD).mono (by omega)
theorem SmA.sz {pt : List Rat} (h : ∀ a ∈ pt, SmA a) : LP.PtSz 10 pt := by
  refine ⟨60, by decide, by decide, fun a ha => ?_⟩
  obtain ⟨u, l, h1, h2, h3, rfl⟩ := h a ha
  have h4 : l = 1 ∨ l = 2 ∨ l = 3 ∨ l = 4 ∨ l = 5 := by omega
  rcases h4 with rfl | rfl | rfl | rfl | rfl
  · exact ⟨u * 60, by omega, by rw [Rat.divInt_eq_div, Rat.intCast_mul]; simp; grind⟩
  · exact ⟨u * 30, by omega, by rw [Rat.divInt_eq_div, Rat.intCast_mul]; simp; grind⟩
  · exact ⟨u * 20, by omega, by rw [Rat.divInt_eq_div, Rat.intCast_mul]; simp; grind⟩
  · exact ⟨u * 15, by omega, by rw [Rat.divInt_eq_div, Rat.intCast_mul]; simp; grind⟩
  · exact ⟨u * 12, by omega, by rw [Rat.divInt_eq_div, Rat.intCast_mul]; simp; grind⟩
theorem DD.lim {n : Nat} {L : List Lim} (h : DD n L) : ∀ l ∈ L, (∀ a ∈ l.1, a.natAbs < 2 ^ 40) ∧ l.2.natAbs < 2 ^ 40 := by
  obtain ⟨w, M, hM, h⟩ := h
  intro l hl
  refine ⟨fun a ha => ?_, ?_⟩
  · have := (hM l hl).1 a ha
    omega
  · have := (hM l hl).2
    omega
theorem DD.len {n : Nat} {L : List Lim} (h : DD n L) : 1 ≤ n ∧ n ≤ 4 ∧ L.length ≤ 10 := by
  obtain ⟨w, M, hM, h⟩ := h
  omega
theorem DD.lok {n : Nat} {L : List Lim} (h : DD n L) {pt : List Rat} (hl : pt.length = n) {z : Nat} (hz : z ≤ 1790) (hp : LP.PtSz z pt) : LOk L pt := fun l hl' => by
  have hd := h.lim l hl'
  exact ⟨WOk.of hp hd.1 (by decide) hz (by have := h.len; exact Nat.le_trans (show pt.length ≤ 4 by omega) (by decide)), Nat.lt_of_lt_of_le hd.2 (Nat.pow_le_pow_right (by decide) (by decide))⟩
theorem pl_lims (L : List Lim) : plD (.lst (L.map limL)) = true := plDs_map fun l _ => pl_limL l
theorem cmp_lims (L : List Lim) : cmpOk 20 (.lst (L.map limL)) = true := cmpOks_map (n := 19) fun l _ => cmp_limL l 17
theorem pl_nats (ks : List Nat) : plD (natsD ks) = true := plDs_map fun _ _ => rfl
theorem cmp_nats (ks : List Nat) : cmpOk 20 (natsD ks) = true := cmpOks_map (n := 19) fun k _ => cmp_int _ _
theorem cl_lims (L : List Lim) : clD (.lst (L.map limL)) = true := clDs_map fun l _ => clD_limL l
theorem ne_same {d : D} {Q : D → Prop} (h : plD d = true) (c : cmpOk 20 d = true) (q : Q (.bl false)) : w2 .ne d d Q := q_ne h h c c fun t ht => by
  rw [ht.mpr rfl]; exact q
theorem eq_same {d : D} {Q : D → Prop} (h : plD d = true) (c : cmpOk 20 d = true) (q : Q (.bl true)) : w2 .eq d d Q := q_eq h h c c fun t ht => by
  rw [ht.mpr rfl]; exact q
end LK

namespace LK
open PySem

open LP (dot qs at' solved putIn zs firstB helpB rowI)
/-! ### boards -/
def rowD (row : List Rat) : D := .lst (row.map fr)
def bdOf (B : LP.Bo) (ro : Bool) : Bd := ⟨B.heads.map .int, B.tails.map .int, B.rows.map rowD, ro, B.goal.map fr⟩
theorem bd_rows {B : LP.Bo} {ro : Bool} : (bdOf B ro).rows = B.rows.map rowD := rfl
theorem bd_goal {B : LP.Bo} {ro : Bool} : (bdOf B ro).goal = B.goal.map fr := rfl
theorem bd_heads {B : LP.Bo} {ro : Bool} : (bdOf B ro).heads = B.heads.map .int := rfl
theorem bd_tails {B : LP.Bo} {ro : Bool} : (bdOf B ro).tails = B.tails.map .int := rfl
theorem e_rowlst {row : List Rat} {Q : D → Prop} : w1 .lstO (rowD row) Q = Q (rowD row) := rfl
theorem ix_li {α : Type} {f : α → D} {xs : List α} {k : Nat} {i : Int} {Q : D → Prop} (d : α) (h : k < xs.length) (e : i = (k : Int)) (q : Q (f (xs.getD k d))) : w2 .ix (.lst (xs.map f)) (.int i) Q := by
  subst e
  exact ⟨_, atI_mapD d h, q⟩
theorem at_i {α : Type} {f : α → D} {xs : List α} {k : Nat} {i : Int} {Q : D → Prop} (d : α) (h : k < xs.length) (e : i = (k : Int)) (q : Q (f (xs.getD k d))) : ∃ z, L2.atI (xs.map f) i = some z ∧ Q z := by
  subst e
  exact ⟨_, atI_mapD d h, q⟩
theorem ix_row {row : List Rat} {k : Nat} {i : Int} {Q : D → Prop} (h : k < row.length) (e : i = (k : Int)) (q : Q (fr (row.getD k 0))) : w2 .ix (rowD row) (.int i) Q := ix_li 0 h e q
theorem ixN_nn {n k : Nat} {i : Int} (h : k < n) (e : i = (k : Int)) : L2.ixN n i = some k := by
  subst e
  unfold L2.ixN
  simp [h]
structure BOk (B : LP.Bo) : Prop where
  rl : B.rows.length = B.heads.length
  rw' : ∀ row ∈ B.rows, row.length = B.tails.length + 1 ∧ ∀ a ∈ row, Sz 1000 a
  gl : B.goal.length = B.tails.length + 1
  gs : ∀ a ∈ B.goal, Sz 1000 a
  hl : B.heads.length ≤ 1000
  tl : B.tails.length ≤ 1000
theorem BOk.row {B : LP.Bo} (h : BOk B) {i : Nat} (hi : i < B.heads.length) : (B.rows.getD i []).length = B.tails.length + 1 ∧ ∀ a ∈ B.rows.getD i [], Sz 1000 a := h.rw' _ (LP.getD_mem (by rw [h.rl]; exact hi))
end LK

namespace LK
open PySem
local macro_rules | `(tactic| trivial) => `(tactic| (try simp only [ent, List.length, List.map, List.replicate, List.cons_append, List.nil_append, Nat.sub_self, Nat.add_one_sub_one, Nat.reduceAdd, Nat.reduceSub]) <;> try simp only [wB, wS, wE, wEs, wO, wC, wSrc, theB, fld, bd_rows, bd_goal, bd_heads, bd_tails, e_rowlst, true_and, e_limT0, e_limT1, e_limL0, e_limL1, e_fr0, e_fr1, e_dk0, e_dk1, e_ptlen, e_ptlst, len_map, Int.toNat_natCast, e_slt, e_tcat, e_neg, e_abs, e_lent, e_lenl, e_lens, e_lenS, e_tupt, e_tupl, e_lstt, e_lstl, e_inti, e_intb, e_str, e_isInt, e_isBool, e_isTup, e_isLst, e_isStr, e_isN, e_notN, e_add, e_sub, e_mul, e_fdiv, e_mod, e_pow, e_lt, e_le, e_gt, e_ge, e_eqi, e_nei, e_cat, e_tcat, e_ixl, e_ixs, e_ixt0, e_ixt1, e_ixt2, e_max, e_min, e_test, e_seql, e_seqt, e_seqs, e_rng, e_rng2, e_zipl, e_zipt, e_ziptt, e_sll, e_slt, e_sls, e_nm, e_pr, gt, st, ent, List.map, List.replicate, List.length, List.cons_append, List.nil_append, kOf, Nat.sub_self, Nat.add_one_sub_one, Nat.reduceAdd, Nat.reduceSub, reduceCtorEq, decide_eq_true_eq, Bool.not_eq_true', decide_eq_false_iff_not, if_true, if_false, Bool.false_eq_true, ite_true, ite_false])
open LP (dot qs at' solved putIn zs firstB helpB rowI)
def sp_40 : FSp := fun ds b Q E => ∃ n k : Int, ds = [.int n, .int k] ∧ Q (.int (2 * n + 1 + k)) b
theorem len_40 (ds b Q E) (h : sp_40 ds b Q E) : ds.length = 2 := by
  obtain ⟨i, j, rfl, _⟩ := h
  rfl
theorem meets_40 {G : Gm} (r : G.fr 40 = false) : ∀ ds b Q E, sp_40 ds b Q E → wB G B_40 (kOf (G.fr 40) Q E) (ent N_40.length ds) b := by
  rintro ds b Q E ⟨n, k, rfl, hQ⟩
  unfold B_40 N_40
  trivial
  exact ⟨MulOk.l (by decide), .inl hQ⟩
/-- the least bound's place -/
def Low (bs : List Int) (r : Int) : Prop := (r = -1 ∧ ∀ k, k < bs.length → 0 ≤ bs.getD k 0) ∨ ∃ k : Nat, r = k ∧ k < bs.length ∧ bs.getD k 0 < 0 ∧ ∀ j, j < bs.length → bs.getD k 0 ≤ bs.getD j 0
def oneD (i : Int) : D := .lst [.tup [.int i, .int 1]]
def sp_39 : FSp := fun ds b Q E => ∃ bs : List Int, ds = [.lst (bs.map oneD)] ∧ bs.length ≤ 1000000 ∧ (∀ i ∈ bs, i.natAbs < 2 ^ 1000) ∧ ∀ r, Low bs r → Q (.int r) b
theorem len_39 (ds b Q E) (h : sp_39 ds b Q E) : ds.length = 1 := by
  obtain ⟨i, rfl, _⟩ := h
  rfl
theorem e_one0 {i : Int} {Q : D → Prop} (q : Q (fr (i : Rat))) : w2 .ix (oneD i) (.int 0) Q := by
  refine ⟨.tup [.int i, .int 1], rfl, ?_⟩
  rw [fr_int]
  exact q
theorem meets_39 {G : Gm} (h5 : G.sp 5 = sp_5) (g3 : G.gc 3 = .tup [.int 0, .int 1]) (r : G.fr 39 = false) : ∀ ds b Q E, sp_39 ds b Q E → wB G B_39 (kOf (G.fr 39) Q E) (ent N_39.length ds) b := by
  rintro ds b Q E ⟨bs, rfl, hl, hb, hQ⟩
  unfold B_39 N_39
  trivial
  rw [h5, g3, show D.tup [.int 0, .int 1] = fr ((0 : Int) : Rat) from fr_int 0]
  have zb : ∀ j, Sz 4000 ((bs.getD j 0 : Int) : Rat) := fun j => by
    refine Sz.mono (n := 1000) (Sz.int ?_ (by decide)) (by decide)
    by_cases hj : j < bs.length
    · exact hb _ (LP.getD_mem hj)
    · have e : bs.getD j 0 = 0 := by simp [List.getD, hj]
      rw [e]
      exact Nat.pow_pos (by decide)
  refine ⟨by omega, wfor_range (fun k δ b' => ∃ (f : Int) (s2 s3 : Sl), δ = [.vl (.lst (bs.map oneD)), .vl (.int f), s2, s3] ∧ b' = b ∧ Low (bs.take k) f) ⟨_, _, _, rfl, rfl, .inl ⟨rfl, by simp⟩⟩ ?_ ?_⟩
  · rintro k hk δ b' ⟨f, s2, s3, rfl, rfl, hf⟩ R hR
    have tl : (bs.take k).length = k := by rw [List.length_take]; omega
    have tl2 : (bs.take (k + 1)).length = k + 1 := by rw [List.length_take]; omega
    have tg : ∀ j, j < k → (bs.take k).getD j 0 = bs.getD j 0 := fun j hj => by simp [List.getD, List.getElem?_take, hj]
    have tg2 : ∀ j, j < k + 1 → (bs.take (k + 1)).getD j 0 = bs.getD j 0 := fun j hj => by simp [List.getD, List.getElem?_take, hj]
    trivial
    unfold Low at hf
    rw [tl] at hf
    rcases hf with ⟨rfl, hn⟩ | ⟨q, rfl, hq, hneg, hmin⟩
    · rw [if_neg (by decide)]
      refine ix_l 0 hk (e_one0 ⟨_, _, rfl, zb k, Sz.mono (n := 2) (Sz.int (by decide) (by decide)) (by decide), ?_⟩)
      trivial
      refine L2.ite2 (fun h => hR _ _ ⟨k, _, _, rfl, rfl, .inr ⟨k, rfl, by omega, ?_, fun j hj => ?_⟩⟩) fun h => hR _ _ ⟨-1, _, _, rfl, rfl, .inl ⟨rfl, fun j hj => ?_⟩⟩
      · rw [tg2 k (by omega)]
        exact Rat.intCast_lt_intCast.mp h
      · rw [tg2 k (by omega), tg2 j (by omega)]
        have h' := Rat.intCast_lt_intCast.mp h
        by_cases e : j = k
        · subst e; omega
        · have := hn j (by omega)
          rw [tg j (by omega)] at this
          omega
      · rw [tg2 j (by omega)]
        have h' : ¬ bs.getD k 0 < 0 := fun z => h (Rat.intCast_lt_intCast.mpr z)
        by_cases e : j = k
        · subst e; omega
        · have := hn j (by omega)
          rw [tg j (by omega)] at this
          omega
    · rw [tg q hq] at hneg hmin
      rw [if_pos (by omega)]
      refine ix_l 0 (by omega : q < bs.length) (e_one0 ?_)
      refine ix_l 0 hk (e_one0 ⟨_, _, rfl, zb k, zb q, ?_⟩)
      trivial
      refine L2.ite2 (fun h => hR _ _ ⟨k, _, _, rfl, rfl, .inr ⟨k, rfl, by omega, ?_, fun j hj => ?_⟩⟩) fun h => hR _ _ ⟨q, _, _, rfl, rfl, .inr ⟨q, rfl, by omega, ?_, fun j hj => ?_⟩⟩
      · rw [tg2 k (by omega)]
        have h' := Rat.intCast_lt_intCast.mp h
        omega
      · rw [tg2 k (by omega), tg2 j (by omega)]
        have h' := Rat.intCast_lt_intCast.mp h
        by_cases e : j = k
        · subst e; omega
        · have := hmin j (by omega)
          rw [tg j (by omega)] at this
          omega
      · rw [tg2 q (by omega)]; exact hneg
      · rw [tg2 q (by omega), tg2 j (by omega)]
        have h' : ¬ bs.getD k 0 < bs.getD q 0 := fun z => h (Rat.intCast_lt_intCast.mpr z)
        by_cases e : j = k
        · subst e; omega
        · have := hmin j (by omega)
          rw [tg j (by omega)] at this
          omega
  · rintro δ b' ⟨f, s2, s3, rfl, rfl, hf⟩
    trivial
    rw [List.take_length] at hf
    exact .inl (hQ f hf)
/-! ### first boards -/
def sp_41 : FSp := fun ds b Q E => ∃ (n : Nat) (L : List Lim), ds = [deskD n L] ∧ L.length ≤ 100000 ∧ (∀ l ∈ L, l.1.length ≤ 100000) ∧ Q (.lst ((L.map fun l => qs (rowI l)).map rowD)) b
theorem len_41 (ds b Q E) (h : sp_41 ds b Q E) : ds.length = 1 := by
  obtain ⟨i, L, rfl, _⟩ := h
  rfl
theorem row_rowI (l : Lim) : (rowD (qs (rowI l))) = .lst (.tup [.int l.2, .int 1] :: ((l.1.map fun i => D.tup [.int (-i), .int 1]) ++ l.1.map fun i => D.tup [.int i, .int 1])) := by
  unfold rowD qs rowI
  simp only [fr_int, List.map_cons, List.map_append, List.map_map, Function.comp_def]
theorem meets_41 {G : Gm} (r : G.fr 41 = false) : ∀ ds b Q E, sp_41 ds b Q E → wB G B_41 (kOf (G.fr 41) Q E) (ent N_41.length ds) b := by
  rintro ds b Q E ⟨n, L, rfl, hl, hw, hQ⟩
  unfold B_41 N_41
  trivial
  refine wfor_idx limT ([], 0) (fun k δ b' => ∃ (s2 s3 : Sl), δ = [.vl (deskD n L), .ow (((L.take k).map fun l => qs (rowI l)).map rowD), s2, s3, .no] ∧ b' = b) ⟨_, _, rfl, rfl⟩ ?_ ?_
  · rintro k hk δ b' ⟨s2, s3, rfl, rfl⟩ R hR
    have hlw := hw _ (LP.getD_mem (d := ([], 0)) hk)
    trivial
    refine ⟨by rw [List.length_map]; omega, wmap_e D.int (fun i => .tup [.int (-i), .int 1]) (fun i _ R hR => ?_) ⟨by simp only [List.length_map, List.length_append, List.length_cons, List.length_nil]; omega, by rw [List.length_map]; omega, wmap_e D.int (fun i => .tup [.int i, .int 1]) (fun i _ R hR => ?_) ⟨by simp only [List.length_map, List.length_append, List.length_cons, List.length_nil]; omega, by rw [List.length_map, List.length_map, List.length_take]; omega, ?_⟩⟩⟩
    · trivial
      exact hR
    · trivial
      exact hR
    · refine hR _ _ ⟨.vl (limT (L.getD k ([], 0))), .vl (rowD (qs (rowI (L.getD k ([], 0))))), ?_, rfl⟩
      rw [List.take_succ_eq_append_getElem hk, List.map_append, List.map_append, row_rowI]
      simp [List.getD, hk, row_rowI]
  · rintro δ b' ⟨s2, s3, rfl, rfl⟩
    trivial
    rw [List.take_length]
    exact .inl hQ
def sp_42 : FSp := fun ds b Q E => ∃ (n : Nat) (L : List Lim), ds = [deskD n L] ∧ b = none ∧ n ≤ 1000 ∧ L.length ≤ 1000 ∧ (∀ l ∈ L, l.1.length ≤ 1000) ∧ ∀ p, Q (.brd p) (some (p, bdOf (firstB n L) false))
theorem len_42 (ds b Q E) (h : sp_42 ds b Q E) : ds.length = 1 := by
  obtain ⟨i, L, rfl, _⟩ := h
  rfl
theorem meets_42 {G : Gm} (h40 : G.sp 40 = sp_40) (h41 : G.sp 41 = sp_41) (g3 : G.gc 3 = .tup [.int 0, .int 1]) (r : G.fr 42 = false) : ∀ ds b Q E, sp_42 ds b Q E → wB G B_42 (kOf (G.fr 42) Q E) (ent N_42.length ds) b := by
  rintro ds b Q E ⟨n, L, rfl, rfl, hn, hl, hw, hQ⟩
  unfold B_42 N_42
  trivial
  rw [h40, h41, g3]
  refine ⟨by omega, by simp [rngD]; omega, wmap_range (fun k => .int (2 * (n : Int) + 1 + (k : Int))) (fun k hk R hR => ?_) ?_⟩
  · trivial
    exact ⟨_, _, rfl, hR⟩
  refine ⟨MulOk.l (by decide), by omega, by simp [rngD]; omega, ?_⟩
  rw [show (2 * (n : Int)).toNat = 2 * n by omega]
  refine wmap_range (fun k => .int ((k : Int) + 1)) (fun k hk R hR => ?_) ?_
  · trivial
    exact hR
  refine ⟨n, L, rfl, by omega, fun l hl => Nat.le_trans (hw l hl) (by decide), ?_⟩
  refine ⟨MulOk.l (by decide), by omega, by simp [rngD]; omega, ?_⟩
  rw [show (2 * (n : Int) + 1).toNat = 2 * n + 1 by omega]
  refine wmap_range (fun k => .tup [.int 0, .int 1]) (fun k hk R hR => ?_) ⟨rfl, fun p => .inl ?_⟩
  · trivial
    exact hR
  have e : bdOf (firstB n L) false = ⟨(List.range L.length).map fun k : Nat => .int (2 * (n : Int) + 1 + (k : Int)), (List.range (2 * n)).map fun k : Nat => .int ((k : Int) + 1), (L.map fun l => qs (rowI l)).map rowD, false, (List.range (2 * n + 1)).map fun _ => .tup [.int 0, .int 1]⟩ := by
    unfold bdOf firstB LP.slk LP.amt zs
    simp only [List.map_map, Function.comp_def, List.map_replicate, List.map_const', List.length_range, Bd.mk.injEq, true_and]
    rfl
  rw [← e]
  exact hQ p
end LK

namespace LK
open PySem
local macro_rules | `(tactic| trivial) => `(tactic| (try simp only [ent, List.length, List.map, List.replicate, List.cons_append, List.nil_append, Nat.sub_self, Nat.add_one_sub_one, Nat.reduceAdd, Nat.reduceSub]) <;> try simp only [wB, wS, wE, wEs, wO, wC, wSrc, theB, fld, bd_rows, bd_goal, bd_heads, bd_tails, e_rowlst, true_and, e_limT0, e_limT1, e_limL0, e_limL1, e_fr0, e_fr1, e_dk0, e_dk1, e_ptlen, e_ptlst, len_map, Int.toNat_natCast, e_slt, e_tcat, e_neg, e_abs, e_lent, e_lenl, e_lens, e_lenS, e_tupt, e_tupl, e_lstt, e_lstl, e_inti, e_intb, e_str, e_isInt, e_isBool, e_isTup, e_isLst, e_isStr, e_isN, e_notN, e_add, e_sub, e_mul, e_fdiv, e_mod, e_pow, e_lt, e_le, e_gt, e_ge, e_eqi, e_nei, e_cat, e_tcat, e_ixl, e_ixs, e_ixt0, e_ixt1, e_ixt2, e_max, e_min, e_test, e_seql, e_seqt, e_seqs, e_rng, e_rng2, e_zipl, e_zipt, e_ziptt, e_sll, e_slt, e_sls, e_nm, e_pr, gt, st, ent, List.map, List.replicate, List.length, List.cons_append, List.nil_append, kOf, Nat.sub_self, Nat.add_one_sub_one, Nat.reduceAdd, Nat.reduceSub, reduceCtorEq, decide_eq_true_eq, Bool.not_eq_true', decide_eq_false_iff_not, if_true, if_false, Bool.false_eq_true, ite_true, ite_false])
open LP (dot qs at' solved putIn zs firstB helpB rowI ratio Feas Top Good Lea)
theorem mem_of_getD {row : List Rat} {k : Nat} {P : Rat → Prop} (h : ∀ a ∈ row, P a) (hk : k < row.length) : P (row.getD k 0) := h _ (LP.getD_mem hk)
def sp_43 : FSp := fun ds b Q E => ∃ (row : List Rat) (p : Nat), ds = [rowD row, .int p] ∧ p + 1 < row.length ∧ row.length ≤ 1000000 ∧ at' row p ≠ 0 ∧ (∀ a ∈ row, Sz 1000 a) ∧ Q (rowD (solved row p)) b
theorem len_43 (ds b Q E) (h : sp_43 ds b Q E) : ds.length = 2 := by
  obtain ⟨i, L, rfl, _⟩ := h
  rfl
theorem map_set_fr (xs : List Rat) (i : Nat) (v : Rat) : (xs.map fr).set i (fr v) = (xs.set i v).map fr := (List.map_set ..).symm
theorem sz1 : Sz 4000 (1 : Rat) := Sz.mono (n := 2) (Sz.int (i := 1) (by decide) (by decide)) (by decide)
theorem meets_43 {G : Gm} (h11 : G.sp 11 = sp_11) (h14 : G.sp 14 = sp_14) (g4 : G.gc 4 = .tup [.int 1, .int 1]) (r : G.fr 43 = false) : ∀ ds b Q E, sp_43 ds b Q E → wB G B_43 (kOf (G.fr 43) Q E) (ent N_43.length ds) b := by
  rintro ds b Q E ⟨row, p, rfl, hp, hl, h0, hs, hQ⟩
  unfold B_43 N_43
  trivial
  rw [h11, h14, g4, show D.tup [.int 1, .int 1] = fr (1 : Rat) from fr_int 1]
  refine ix_row hp (by omega) ?_
  have hz := mem_of_getD hs hp
  refine ⟨by rw [List.length_map]; exact hl, ?_⟩
  refine wmap_e fr (fun a => fr (-(a / at' row p))) (fun a ha R hR => ?_) ?_
  · trivial
    exact ⟨a, _, rfl, h0, (hs a ha).mono (by decide), hz.mono (by decide), _, rfl, hR⟩
  refine ⟨1, _, rfl, h0, sz1, hz.mono (by decide), p + 1, ixN_nn (by rw [List.length_map]; exact hp) (by omega), .inl ?_⟩
  have e : ((row.map fun a => fr (-(a / at' row p))).set (p + 1) (fr (1 / row.getD (p + 1) 0))) = (solved row p).map fr := by
    unfold solved
    rw [← map_set_fr, List.map_map]
    rfl
  rw [e]
  exact hQ
def sp_44 : FSp := fun ds b Q E => ∃ (row line : List Rat) (p : Nat), ds = [rowD row, rowD line, .int p] ∧ p + 1 < row.length ∧ row.length = line.length ∧ row.length ≤ 1000000 ∧ (∀ a ∈ row, Sz 1000 a) ∧ (∀ a ∈ line, Sz 2000 a) ∧ Q (rowD (putIn row line p)) b
theorem len_44 (ds b Q E) (h : sp_44 ds b Q E) : ds.length = 3 := by
  obtain ⟨i, L, p, rfl, _⟩ := h
  rfl
theorem meets_44 {G : Gm} (h10 : G.sp 10 = sp_10) (h13 : G.sp 13 = sp_13) (g3 : G.gc 3 = .tup [.int 0, .int 1]) (r : G.fr 44 = false) : ∀ ds b Q E, sp_44 ds b Q E → wB G B_44 (kOf (G.fr 44) Q E) (ent N_44.length ds) b := by
  rintro ds b Q E ⟨row, line, p, rfl, hp, hl, hl2, hs, hs2, hQ⟩
  unfold B_44 N_44
  trivial
  rw [h10, h13, g3, show D.tup [.int 0, .int 1] = fr (0 : Rat) from fr_int 0]
  refine ix_row hp (by omega) ?_
  have hz := mem_of_getD hs hp
  refine q_eqf ?_
  trivial
  refine L2.ite2 (fun h => .inl ?_) fun h => ?_
  · have e : putIn row line p = row := if_pos h
    rw [e] at hQ
    exact hQ
  · unfold rowD
    trivial
    rw [zipD_map]
    refine ⟨by rw [List.length_map, List.length_zip]; omega, ?_⟩
    refine wmap_e (fun q : Rat × Rat => D.tup [fr q.1, fr q.2]) (fun q : Rat × Rat => fr (q.1 + at' row p * q.2)) (fun q hq R hR => ?_) ?_
    · have := List.of_mem_zip hq
      trivial
      exact ⟨_, _, rfl, hz.mono (by decide), (hs2 _ this.2).mono (by decide), _, _, rfl, (hs _ this.1).mono (by decide), (sz_mul' hz (hs2 _ this.2)).mono (by decide), hR⟩
    refine ix_li 0 (by omega : p + 1 < line.length) (by omega) ⟨_, _, rfl, hz.mono (by decide), (mem_of_getD hs2 (by omega)).mono (by decide), p + 1, ixN_nn (by rw [List.length_map, List.length_zip]; omega) (by omega), .inl ?_⟩
    have e : (((row.zip line).map fun q : Rat × Rat => fr (q.1 + at' row p * q.2)).set (p + 1) (fr (row.getD (p + 1) 0 * line.getD (p + 1) 0))) = (putIn row line p).map fr := by
      have e2 : putIn row line p = (List.zipWith (fun a b => a + at' row p * b) row line).set (p + 1) (at' row p * at' line p) := if_neg h
      rw [e2, ← map_set_fr]
      congr 1
      rw [List.zip, List.map_zipWith, List.map_zipWith]
    rw [e]
    exact hQ
theorem solved_sz {row : List Rat} {p : Nat} (hs : ∀ a ∈ row, Sz 1000 a) (hp : p + 1 < row.length) (h0 : at' row p ≠ 0) : ∀ a ∈ solved row p, Sz 2000 a := by
  intro a ha
  have hz := mem_of_getD hs hp
  unfold solved at ha
  rcases List.mem_or_eq_of_mem_set ha with h | h
  · obtain ⟨c, hc, rfl⟩ := List.mem_map.mp h
    exact (sz_div h0 (hs c hc) hz).neg
  · rw [h]
    exact sz_div (n := 1000) h0 (Sz.mono (n := 2) (Sz.int (i := 1) (by decide) (by decide)) (by decide)) hz
def sp_45 : FSp := fun ds b Q E => ∃ (a : Addr) (r p : Nat) (B : LP.Bo) (ro : Bool), ds = [.brd a, .int r, .int p] ∧ b = some (a, bdOf B ro) ∧ BOk B ∧ r < B.heads.length ∧ p < B.tails.length ∧ at' (B.rows.getD r []) p ≠ 0 ∧ Q .non (some (a, bdOf (B.swap r p) true))
theorem len_45 (ds b Q E) (h : sp_45 ds b Q E) : ds.length = 3 := by
  obtain ⟨i, L, p, B, ro, rfl, _⟩ := h
  rfl
theorem meets_45 {G : Gm} (h43 : G.sp 43 = sp_43) (h44 : G.sp 44 = sp_44) (r : G.fr 45 = false) : ∀ ds b Q E, sp_45 ds b Q E → wB G B_45 (kOf (G.fr 45) Q E) (ent N_45.length ds) b := by
  rintro ds b Q E ⟨a, k, p, B, ro, rfl, rfl, ok, hk, hp, h0, hQ⟩
  unfold B_45 N_45
  trivial
  rw [h43, h44]
  have hrow := ok.row hk
  refine at_i [] (by rw [ok.rl]; exact hk) rfl ⟨_, p, rfl, by omega, by have := ok.tl; omega, h0, hrow.2, ?_⟩
  trivial
  have hss := solved_sz (p := p) hrow.2 (by omega) h0
  have hsl := LP.solved_len (B.rows.getD k []) p
  refine ⟨by rw [List.length_map, ok.rl]; have := ok.hl; omega, wmap_e rowD (fun row => rowD (putIn row (solved (B.rows.getD k []) p) p)) (fun row hr R hR => ?_) ?_⟩
  · have := ok.rw' row hr
    trivial
    exact ⟨row, _, p, rfl, by omega, by omega, by have := ok.tl; omega, this.2, hss, hR⟩
  trivial
  refine ⟨k, ixN_nn (by rw [List.length_map, ok.rl]; exact hk) rfl, B.goal, _, p, rfl, by have := ok.gl; omega, by have := ok.gl; omega, by have := ok.tl; have := ok.gl; omega, ok.gs, hss, ?_⟩
  trivial
  refine at_i 0 hk rfl ?_
  refine at_i 0 hp rfl ⟨k, ixN_nn (by rw [List.length_map]; exact hk) rfl, p, ixN_nn (by rw [List.length_map]; exact hp) rfl, r, .inl ?_⟩
  have e : bdOf (B.swap k p) true = ⟨(B.heads.map D.int).set k (.int (B.tails.getD p 0)), (B.tails.map D.int).set p (.int (B.heads.getD k 0)), (B.rows.map fun row => rowD (putIn row (solved (B.rows.getD k []) p) p)).set k (rowD (solved (B.rows.getD k []) p)), true, (putIn B.goal (solved (B.rows.getD k []) p) p).map fr⟩ := by
    unfold bdOf LP.Bo.swap
    simp only [List.map_set, List.map_map, Function.comp_def]
  rw [← e]
  exact hQ
end LK

namespace LK
open PySem
local macro_rules | `(tactic| trivial) => `(tactic| (try simp only [ent, List.length, List.map, List.replicate, List.cons_append, List.nil_append, Nat.sub_self, Nat.add_one_sub_one, Nat.reduceAdd, Nat.reduceSub]) <;> try simp only [wB, wS, wE, wEs, wO, wC, wSrc, theB, fld, bd_rows, bd_goal, bd_heads, bd_tails, e_rowlst, true_and, e_limT0, e_limT1, e_limL0, e_limL1, e_fr0, e_fr1, e_dk0, e_dk1, e_ptlen, e_ptlst, len_map, Int.toNat_natCast, e_slt, e_tcat, e_neg, e_abs, e_lent, e_lenl, e_lens, e_lenS, e_tupt, e_tupl, e_lstt, e_lstl, e_inti, e_intb, e_str, e_isInt, e_isBool, e_isTup, e_isLst, e_isStr, e_isN, e_notN, e_add, e_sub, e_mul, e_fdiv, e_mod, e_pow, e_lt, e_le, e_gt, e_ge, e_eqi, e_nei, e_cat, e_tcat, e_ixl, e_ixs, e_ixt0, e_ixt1, e_ixt2, e_max, e_min, e_test, e_seql, e_seqt, e_seqs, e_rng, e_rng2, e_zipl, e_zipt, e_ziptt, e_sll, e_slt, e_sls, e_nm, e_pr, gt, st, ent, List.map, List.replicate, List.length, List.cons_append, List.nil_append, kOf, Nat.sub_self, Nat.add_one_sub_one, Nat.reduceAdd, Nat.reduceSub, reduceCtorEq, decide_eq_true_eq, Bool.not_eq_true', decide_eq_false_iff_not, if_true, if_false, Bool.false_eq_true, ite_true, ite_false])
open LP (dot qs at' solved putIn zs firstB helpB rowI ratio Feas Top Good Lea)
/-- what entering tells -/
def EntS (B : LP.Bo) (r : Int) : Prop := (r = -1 ∧ Top B) ∨ ∃ p : Nat, r = p ∧ LP.Ent B p
theorem num_pos {r : Rat} : 0 < r.num ↔ 0 < r := by rw [Rat.lt_iff]; simp
theorem num_neg {r : Rat} : r.num < 0 ↔ r < 0 := by rw [Rat.lt_iff]; simp
theorem ne_neg {a : Rat} (h : a < 0) : a ≠ 0 := by grind
def sp_46 : FSp := fun ds b Q E => ∃ (a : Addr) (B : LP.Bo) (ro : Bool), ds = [.brd a] ∧ b = some (a, bdOf B ro) ∧ BOk B ∧ ∀ r, EntS B r → Q (.int r) b
theorem len_46 (ds b Q E) (h : sp_46 ds b Q E) : ds.length = 1 := by
  obtain ⟨i, L, ro, rfl, _⟩ := h
  rfl
theorem meets_46 {G : Gm} (r : G.fr 46 = false) : ∀ ds b Q E, sp_46 ds b Q E → wB G B_46 (kOf (G.fr 46) Q E) (ent N_46.length ds) b := by
  rintro ds b Q E ⟨a, B, ro, rfl, rfl, ok, hQ⟩
  unfold B_46 N_46
  trivial
  have tl := ok.tl
  refine ⟨by omega, wfor_range (fun k δ b' => ∃ (f : Int) (s2 : Sl), δ = [.vl (.brd a), .vl (.int f), s2] ∧ b' = some (a, bdOf B ro) ∧
    ((f = -1 ∧ ∀ j, j < k → ¬ 0 < at' B.goal j) ∨ ∃ p : Nat, f = p ∧ p < k ∧ 0 < at' B.goal p ∧ ∀ j, j < k → 0 < at' B.goal j → B.tails.getD p 0 ≤ B.tails.getD j 0)) ⟨_, _, rfl, rfl, .inl ⟨rfl, by omega⟩⟩ ?_ ?_⟩
  · rintro k hk δ b' ⟨f, s2, rfl, rfl, hf⟩ R hR
    trivial
    refine at_i 0 (by rw [ok.gl]; omega : k + 1 < B.goal.length) (by omega) ?_
    trivial
    have e : B.goal.getD (k + 1) 0 = at' B.goal k := rfl
    rw [e]
    refine L2.ite2 (fun h => ?_) fun h => ?_
    · rw [num_pos] at h
      rcases hf with ⟨rfl, hn⟩ | ⟨p, rfl, hp, hpos, hmin⟩
      · rw [if_pos (by decide)]
        refine hR _ _ ⟨k, _, rfl, rfl, .inr ⟨k, rfl, by omega, h, fun j hj hjp => ?_⟩⟩
        by_cases e : j = k
        · rw [e]; exact Int.le_refl _
        · exact absurd hjp (hn j (by omega))
      · rw [if_neg (by omega)]
        refine at_i 0 hk rfl ?_
        refine at_i 0 (by omega : p < B.tails.length) rfl ?_
        trivial
        refine L2.ite2 (fun h2 => hR _ _ ⟨k, _, rfl, rfl, .inr ⟨k, rfl, by omega, h, fun j hj hjp => ?_⟩⟩) fun h2 => hR _ _ ⟨p, _, rfl, rfl, .inr ⟨p, rfl, by omega, hpos, fun j hj hjp => ?_⟩⟩
        · by_cases e : j = k
          · rw [e]; exact Int.le_refl _
          · have := hmin j (by omega) hjp
            omega
        · by_cases e : j = k
          · rw [e]; omega
          · exact hmin j (by omega) hjp
    · rw [num_pos] at h
      refine hR _ _ ⟨f, _, rfl, rfl, ?_⟩
      rcases hf with ⟨rfl, hn⟩ | ⟨p, rfl, hp, hpos, hmin⟩
      · refine .inl ⟨rfl, fun j hj => ?_⟩
        by_cases e : j = k
        · rw [e]; exact h
        · exact hn j (by omega)
      · refine .inr ⟨p, rfl, by omega, hpos, fun j hj hjp => ?_⟩
        by_cases e : j = k
        · rw [e] at hjp; exact absurd hjp h
        · exact hmin j (by omega) hjp
  · rintro δ b' ⟨f, s2, rfl, rfl, hf⟩
    trivial
    refine .inl (hQ f ?_)
    rcases hf with ⟨rfl, hn⟩ | ⟨p, rfl, hp, hpos, hmin⟩
    · exact .inl ⟨rfl, hn⟩
    · exact .inr ⟨p, rfl, hp, hpos, hmin⟩
def LeaS (B : LP.Bo) (p : Nat) (r : Int) : Prop := (r = -1 ∧ ∀ i, i < B.heads.length → ¬ at' (B.rows.getD i []) p < 0) ∨ ∃ k : Nat, r = k ∧ Lea B p k
def sp_47 : FSp := fun ds b Q E => ∃ (a : Addr) (B : LP.Bo) (ro : Bool) (p : Nat), ds = [.brd a, .int p] ∧ b = some (a, bdOf B ro) ∧ BOk B ∧ p < B.tails.length ∧ ∀ r, LeaS B p r → Q (.int r) b
theorem len_47 (ds b Q E) (h : sp_47 ds b Q E) : ds.length = 2 := by
  obtain ⟨i, L, ro, p, rfl, _⟩ := h
  rfl
/-- the state of the search -/
def LeaI (B : LP.Bo) (p k : Nat) (f : Int) (l : Rat) : Prop := (f = -1 ∧ l = 0 ∧ ∀ j, j < k → ¬ at' (B.rows.getD j []) p < 0) ∨
  ∃ q : Nat, f = q ∧ q < k ∧ at' (B.rows.getD q []) p < 0 ∧ l = ratio (B.rows.getD q []) p ∧ ∀ i, i < k → at' (B.rows.getD i []) p < 0 →
    ratio (B.rows.getD q []) p < ratio (B.rows.getD i []) p ∨ (ratio (B.rows.getD q []) p = ratio (B.rows.getD i []) p ∧ B.heads.getD q 0 ≤ B.heads.getD i 0)
theorem meets_47 {G : Gm} (h5 : G.sp 5 = sp_5) (h11 : G.sp 11 = sp_11) (h14 : G.sp 14 = sp_14) (g3 : G.gc 3 = .tup [.int 0, .int 1]) (r : G.fr 47 = false) : ∀ ds b Q E, sp_47 ds b Q E → wB G B_47 (kOf (G.fr 47) Q E) (ent N_47.length ds) b := by
  rintro ds b Q E ⟨a, B, ro, p, rfl, rfl, ok, hp, hQ⟩
  unfold B_47 N_47
  trivial
  rw [h5, h11, h14, g3, show D.tup [.int 0, .int 1] = fr (0 : Rat) from fr_int 0]
  have hl := ok.hl
  have rsz : ∀ i, i < B.heads.length → at' (B.rows.getD i []) p < 0 → Sz 2000 (ratio (B.rows.getD i []) p) := fun i hi hneg => by
    have hr := ok.row hi
    exact (sz_div (ne_neg hneg) (mem_of_getD hr.2 (by omega : 0 < _)) (mem_of_getD hr.2 (by omega : p + 1 < _))).neg
  refine ⟨by omega, wfor_range (fun k δ b' => ∃ (f : Int) (l : Rat) (s4 s5 s6 : Sl), δ = [.vl (.brd a), .vl (.int p), .vl (.int f), .vl (fr l), s4, s5, s6] ∧ b' = some (a, bdOf B ro) ∧ LeaI B p k f l) ⟨_, _, _, _, _, rfl, rfl, .inl ⟨rfl, rfl, by omega⟩⟩ ?_ ?_⟩
  · rintro k hk δ b' ⟨f, l, s4, s5, s6, rfl, rfl, hf⟩ R hR
    have hr := ok.row hk
    have hkr : k < B.rows.length := by rw [ok.rl]; exact hk
    trivial
    refine at_i [] hkr rfl ?_
    refine ix_row (by omega : p + 1 < _) (by omega) ?_
    trivial
    refine L2.ite2 (fun h => ?_) fun h => ?_
    · have h : at' (B.rows.getD k []) p < 0 := num_neg.mp h
      refine at_i [] hkr rfl ?_
      refine ix_row (by omega : 0 < _) rfl ?_
      refine at_i [] hkr rfl ?_
      refine ix_row (by omega : p + 1 < _) (by omega) ?_
      refine ⟨_, _, rfl, ne_neg h, (mem_of_getD hr.2 (by omega : 0 < _)).mono (by decide), (mem_of_getD hr.2 (by omega : p + 1 < _)).mono (by decide), _, rfl, ?_⟩
      trivial
      have er : -((B.rows.getD k []).getD 0 0 / (B.rows.getD k []).getD (p + 1) 0) = ratio (B.rows.getD k []) p := rfl
      rw [er]
      have zk := (rsz k hk h).mono (show 2000 ≤ 4000 by decide)
      rcases hf with ⟨rfl, rfl, hn⟩ | ⟨q, rfl, hq, hneg, rfl, hmin⟩
      · rw [if_pos (by decide)]
        refine hR _ _ ⟨k, ratio (B.rows.getD k []) p, _, _, _, rfl, rfl, .inr ⟨k, rfl, by omega, h, rfl, fun i hi hin => ?_⟩⟩
        by_cases e : i = k
        · rw [e]; exact .inr ⟨rfl, Int.le_refl _⟩
        · exact absurd hin (hn i (by omega))
      · rw [if_neg (by omega)]
        refine ⟨_, _, rfl, zk, (rsz q (by omega) hneg).mono (by decide), ?_⟩
        trivial
        have take : ratio (B.rows.getD k []) p < ratio (B.rows.getD q []) p ∨ (ratio (B.rows.getD k []) p = ratio (B.rows.getD q []) p ∧ B.heads.getD k 0 < B.heads.getD q 0) → LeaI B p (k + 1) k (ratio (B.rows.getD k []) p) := fun hc => .inr ⟨k, rfl, by omega, h, rfl, fun i hi hin => by
          by_cases e : i = k
          · rw [e]; exact .inr ⟨rfl, Int.le_refl _⟩
          · have := hmin i (by omega) hin
            rcases hc with c | ⟨c1, c2⟩
            · rcases this with t | ⟨t1, t2⟩
              · left; grind
              · left; grind
            · rcases this with t | ⟨t1, t2⟩
              · left; grind
              · right; exact ⟨by grind, by omega⟩⟩
        have keep : ¬ ratio (B.rows.getD k []) p < ratio (B.rows.getD q []) p → ¬ (ratio (B.rows.getD k []) p = ratio (B.rows.getD q []) p ∧ B.heads.getD k 0 < B.heads.getD q 0) → LeaI B p (k + 1) q (ratio (B.rows.getD q []) p) := fun c1 c2 => .inr ⟨q, rfl, by omega, hneg, rfl, fun i hi hin => by
          by_cases e : i = k
          · rw [e]
            by_cases c : ratio (B.rows.getD q []) p = ratio (B.rows.getD k []) p
            · right
              refine ⟨c, ?_⟩
              have : ¬ B.heads.getD k 0 < B.heads.getD q 0 := fun z => c2 ⟨c.symm, z⟩
              omega
            · left; grind
          · exact hmin i (by omega) hin⟩
        refine L2.ite2 (fun h1 => ?_) fun h1 => L2.ite2 (fun h2 => hR _ _ ⟨k, _, _, _, _, rfl, rfl, take (.inl h2)⟩) fun h2 => absurd h2 h1
        refine q_eqf ?_
        trivial
        refine L2.ite2 (fun h2 => ?_) fun h2 => L2.ite2 (fun h3 => absurd h3 h1) fun _ => hR _ _ ⟨q, _, _, _, _, rfl, rfl, keep h1 fun z => h2 z.1⟩
        refine at_i 0 hk rfl ?_
        refine at_i 0 (by omega : q < B.heads.length) rfl ?_
        trivial
        exact L2.ite2 (fun h3 => hR _ _ ⟨k, _, _, _, _, rfl, rfl, take (.inr ⟨h2, h3⟩)⟩) fun h3 => hR _ _ ⟨q, _, _, _, _, rfl, rfl, keep h1 fun z => h3 z.2⟩
    · have h : ¬ at' (B.rows.getD k []) p < 0 := fun z => h (num_neg.mpr z)
      refine hR _ _ ⟨f, l, _, _, _, rfl, rfl, ?_⟩
      rcases hf with ⟨rfl, rfl, hn⟩ | ⟨q, rfl, hq, hneg, rfl, hmin⟩
      · refine .inl ⟨rfl, rfl, fun j hj => ?_⟩
        by_cases e : j = k
        · rw [e]; exact h
        · exact hn j (by omega)
      · refine .inr ⟨q, rfl, by omega, hneg, rfl, fun j hj hjp => ?_⟩
        by_cases e : j = k
        · rw [e] at hjp; exact absurd hjp h
        · exact hmin j (by omega) hjp
  · rintro δ b' ⟨f, l, s4, s5, s6, rfl, rfl, hf⟩
    trivial
    refine .inl (hQ f ?_)
    rcases hf with ⟨rfl, rfl, hn⟩ | ⟨q, rfl, hq, hneg, rfl, hmin⟩
    · exact .inl ⟨rfl, hn⟩
    · exact .inr ⟨q, rfl, hq, hneg, hmin⟩
/-! ### climb -/
/-- all boards of the run are well sized -/
def AllOk (lab : List Int) (S : LP.SolS) (z : LP.ObjZ) (m t : Nat) : Prop := ∀ B, Good lab S z B → B.heads.length = m → B.tails.length = t → BOk B
def ClimbS (B : LP.Bo) (r : Int) : Prop := (r = -1 ∧ Top B) ∨ ∃ p : Nat, r = p ∧ LP.NoEnd B p
def sp_48 : FSp := fun ds b Q E => ∃ (a : Addr) (B : LP.Bo) (ro : Bool) (lab : List Int) (S : LP.SolS) (z : LP.ObjZ), ds = [.brd a] ∧ b = some (a, bdOf B ro) ∧ Good lab S z B ∧ Feas B ∧ AllOk lab S z B.heads.length B.tails.length ∧
  ∀ B' r ro', Good lab S z B' → Feas B' → B'.heads.length = B.heads.length → B'.tails.length = B.tails.length → ClimbS B' r → Q (.int r) (some (a, bdOf B' ro'))
theorem len_48 (ds b Q E) (h : sp_48 ds b Q E) : ds.length = 1 := by
  obtain ⟨i, L, ro, _, _, _, rfl, _⟩ := h
  rfl
theorem meets_48 {G : Gm} (h45 : G.sp 45 = sp_45) (h46 : G.sp 46 = sp_46) (h47 : G.sp 47 = sp_47) (r : G.fr 48 = false) : ∀ ds b Q E, sp_48 ds b Q E → wB G B_48 (kOf (G.fr 48) Q E) (ent N_48.length ds) b := by
  rintro ds b Q E ⟨a, B, ro, lab, S, z, rfl, rfl, gd, fs, ao, hQ⟩
  unfold B_48 N_48
  trivial
  rw [h45, h46, h47]
  refine ⟨a, B, ro, rfl, rfl, ao B gd rfl rfl, fun f hf => ?_⟩
  trivial
  refine ⟨fun m δ b' => ∃ (W : Nat → LP.Bo) (k : Nat) (f : Int) (ro' : Bool) (s2 : Sl), LP.Run lab S z W k ∧ (W k).heads.length = B.heads.length ∧ (W k).tails.length = B.tails.length ∧ EntS (W k) f ∧ m = 2 ^ lab.length - k ∧ δ = [.vl (.brd a), .vl (.int f), s2] ∧ b' = some (a, bdOf (W k) ro'),
    ⟨_, fun _ => B, 0, f, ro, _, LP.Run.start gd fs, rfl, rfl, hf, rfl, rfl, rfl⟩, ?_⟩
  rintro m δ b' ⟨W, k, f, ro', s2, run, wh, wt, hf, rfl, rfl, rfl⟩
  have gk := run.good k (Nat.le_refl k)
  have fk := run.feas k (Nat.le_refl k)
  have ok := ao (W k) gk wh wt
  trivial
  refine L2.ite2 (fun h => ?_) fun h => ?_
  · rcases hf with ⟨rfl, _⟩ | ⟨p, rfl, hp⟩
    · omega
    refine ⟨a, W k, ro', p, rfl, rfl, ok, hp.1, fun g hg => ?_⟩
    trivial
    rcases hg with ⟨rfl, hn⟩ | ⟨q, rfl, hq⟩
    · rw [if_pos (by decide)]
      exact .inl (hQ _ _ _ gk fk wh wt (.inr ⟨p, rfl, hp.1, hp.2.1, hn⟩))
    · rw [if_neg (by omega)]
      refine ⟨⟨_, rfl⟩, a, q, p, W k, ro', rfl, rfl, ok, hq.1, hp.1, hq.ne, ?_⟩
      have st : LP.Step (W k) ((W k).swap q p) := ⟨q, p, hp, hq, rfl⟩
      have run' := run.next st
      have bnd := run'.bound
      have ek : (if k + 1 ≤ k then W (k + 1) else (W k).swap q p) = (W k).swap q p := if_neg (by omega)
      have lh : ((W k).swap q p).heads.length = B.heads.length := by rw [← wh]; simp [LP.Bo.swap]
      have lt : ((W k).swap q p).tails.length = B.tails.length := by rw [← wt]; simp [LP.Bo.swap]
      refine ⟨a, (W k).swap q p, true, rfl, rfl, ao _ (st.good gk) lh lt, fun f' hf' => ?_⟩
      exact ⟨2 ^ lab.length - (k + 1), by omega, _, k + 1, f', true, _, run', by simp only [ek]; exact lh, by simp only [ek]; exact lt, by simp only [ek]; exact hf', rfl, rfl, by simp only [ek]⟩
  · rcases hf with ⟨rfl, ht⟩ | ⟨p, rfl, hp⟩
    · exact .inl (hQ _ _ _ gk fk wh wt (.inl ⟨rfl, ht⟩))
    · omega
end LK

namespace LK
open PySem
local macro_rules | `(tactic| trivial) => `(tactic| (try simp only [ent, List.length, List.map, List.replicate, List.cons_append, List.nil_append, Nat.sub_self, Nat.add_one_sub_one, Nat.reduceAdd, Nat.reduceSub]) <;> try simp only [wB, wS, wE, wEs, wO, wC, wSrc, theB, fld, bd_rows, bd_goal, bd_heads, bd_tails, e_rowlst, true_and, e_limT0, e_limT1, e_limL0, e_limL1, e_fr0, e_fr1, e_dk0, e_dk1, e_ptlen, e_ptlst, len_map, Int.toNat_natCast, e_slt, e_tcat, e_neg, e_abs, e_lent, e_lenl, e_lens, e_lenS, e_tupt, e_tupl, e_lstt, e_lstl, e_inti, e_intb, e_str, e_isInt, e_isBool, e_isTup, e_isLst, e_isStr, e_isN, e_notN, e_add, e_sub, e_mul, e_fdiv, e_mod, e_pow, e_lt, e_le, e_gt, e_ge, e_eqi, e_nei, e_cat, e_tcat, e_ixl, e_ixs, e_ixt0, e_ixt1, e_ixt2, e_max, e_min, e_test, e_seql, e_seqt, e_seqs, e_rng, e_rng2, e_zipl, e_zipt, e_ziptt, e_sll, e_slt, e_sls, e_nm, e_pr, gt, st, ent, List.map, List.replicate, List.length, List.cons_append, List.nil_append, kOf, Nat.sub_self, Nat.add_one_sub_one, Nat.reduceAdd, Nat.reduceSub, reduceCtorEq, decide_eq_true_eq, Bool.not_eq_true', decide_eq_false_iff_not, if_true, if_false, Bool.false_eq_true, ite_true, ite_false])
open LP (dot qs at' solved putIn zs firstB helpB rowI ratio Feas Top Good Lea cof labOf sysOf kB zHelp zGoal diff bas)
/-! ### slices -/
theorem cut_to {α : Type} (xs : List α) {i : Int} {k : Nat} (e : i = (k : Int)) : cutL xs none (some i) = xs.take k := by
  subst e
  unfold cutL
  rw [HT.sIx_none, HT.sIx_nat, List.drop_zero, Nat.sub_zero]
  by_cases h : k ≤ xs.length
  · rw [Nat.min_eq_left h]
  · rw [Nat.min_eq_right (by omega), List.take_length, List.take_of_length_le (by omega)]
theorem cut_from {α : Type} (xs : List α) {i : Int} {k : Nat} (e : i = (k : Int)) : cutL xs (some i) none = xs.drop k := by
  subst e
  unfold cutL
  rw [HT.sIx_none, HT.sIx_nat]
  by_cases h : k ≤ xs.length
  · rw [Nat.min_eq_left h, List.take_of_length_le (by rw [List.length_drop]; omega)]
  · rw [Nat.min_eq_right (by omega), List.drop_length, List.take_nil, List.drop_of_length_le (by omega)]
theorem cut_len {α : Type} (xs : List α) (lo hi : Option Int) : (cutL xs lo hi).length ≤ xs.length := by
  unfold cutL
  rw [List.length_take, List.length_drop]
  omega
/-! ### a desk whose numbers are bounded -/
structure DOk (n : Nat) (L : List Lim) (M h : Nat) : Prop where
  w : LP.Wf n L
  m1 : 1 ≤ M
  lb : LP.LimB M L
  n1 : n ≤ 100
  ll : L.length ≤ 900
  h9 : h ≤ 900
  k1 : kB (2 * n) M < 2 ^ h
  k2 : kB (2 * n + 1) M < 2 ^ h
  mh : M < 2 ^ h
theorem fz1000 {h : Nat} {r : Rat} (f : LP.Fz h r) (hh : h ≤ 900) : Sz 1000 r := (Sz.fz f).mono (by omega)
theorem amt_len (n : Nat) : (LP.amt n).length = 2 * n := by simp [LP.amt]
theorem allok_h {n : Nat} {L : List Lim} {M h : Nat} (d : DOk n L M h) : AllOk (labOf (helpB n L)) (sysOf (helpB n L)) zHelp L.length (2 * n + 1) := by
  intro B G hh ht
  have I := LP.inth d.m1 d.w d.lb
  have et : B.tails.length = (helpB n L).tails.length := by rw [ht]; simp [helpB, amt_len]
  have k2 := d.k2
  rw [← ht] at k2
  have n1 := d.n1
  have ll := d.ll
  exact ⟨G.rl, fun row hr => ⟨G.rw' row hr, fun a ha => fz1000 (LP.rows_sz I G et k2 row hr a ha) d.h9⟩, G.gl, fun a ha => fz1000 (LP.goal_sz I G et (LP.zHelp_zb LP.zero_lab) k2 (by omega) a ha) d.h9, by omega, by omega⟩
theorem amt_lab (n : Nat) (L : List Lim) : ∀ l ∈ LP.amt n, l ∈ labOf (firstB n L) := fun l hl => List.mem_append.mpr (.inr hl)
theorem allok_g {n : Nat} {L : List Lim} {M h m : Nat} {g : List Int} (d : DOk n L M h) (hg : g.length = n) (hm : ∀ a ∈ g, a.natAbs ≤ m) (hc : 2 * n * m * kB (2 * n) M < 2 ^ h) : AllOk (labOf (firstB n L)) (sysOf (firstB n L)) (zGoal n g) L.length (2 * n) := by
  intro B G hh ht
  have I := LP.int1 d.m1 d.w d.lb
  have et : B.tails.length = (firstB n L).tails.length := by rw [ht]; simp [firstB, amt_len]
  have k1 := d.k1
  rw [← ht] at k1
  have n1 := d.n1
  have ll := d.ll
  have hc' : 2 * n * m * kB B.tails.length M < 2 ^ h := by rw [ht]; exact hc
  exact ⟨G.rl, fun row hr => ⟨G.rw' row hr, fun a ha => fz1000 (LP.rows_sz I G et k1 row hr a ha) d.h9⟩, G.gl, fun a ha => fz1000 (LP.goal_sz I G et (LP.zGoal_zb hg (amt_lab n L) hm) k1 hc' a ha) d.h9, by omega, by omega⟩
def sp_49 : FSp := fun ds b Q E => ∃ (n : Nat) (L : List Lim) (M h r : Nat), ds = [deskD n L, .int r] ∧ b = none ∧ DOk n L M h ∧ r < L.length ∧ (L.getD r ([], 0)).2 < 0 ∧ (∀ k, k < L.length → (L.getD r ([], 0)).2 ≤ (L.getD k ([], 0)).2) ∧
  ∀ a B ro, Good (labOf (helpB n L)) (sysOf (helpB n L)) zHelp B → Feas B → Top B → B.heads.length = L.length → B.tails.length = 2 * n + 1 → Q (.brd a) (some (a, bdOf B ro))
theorem len_49 (ds b Q E) (h : sp_49 ds b Q E) : ds.length = 2 := by
  obtain ⟨i, L, ro, _, _, rfl, _⟩ := h
  rfl
theorem zs_fr (n : Nat) : (zs n).map fr = List.replicate n (fr 0) := by simp [zs]
theorem meets_49 {G : Gm} (h11 : G.sp 11 = sp_11) (h42 : G.sp 42 = sp_42) (h45 : G.sp 45 = sp_45) (h48 : G.sp 48 = sp_48) (g4 : G.gc 4 = .tup [.int 1, .int 1]) (g5 : G.gc 5 = .int 0) (r : G.fr 49 = false) : ∀ ds b Q E, sp_49 ds b Q E → wB G B_49 (kOf (G.fr 49) Q E) (ent N_49.length ds) b := by
  rintro ds b Q E ⟨n, L, M, h, q, rfl, rfl, d, hq, hneg, hmin, hQ⟩
  unfold B_49 N_49
  trivial
  rw [h11, h42, h45, h48, g4, g5, show D.tup [.int 1, .int 1] = fr (1 : Rat) from fr_int 1]
  have n1 := d.n1
  have ll := d.ll
  refine ⟨n, L, rfl, rfl, by omega, by omega, fun l hl => by rw [d.w l hl]; omega, fun a => ?_⟩
  trivial
  have e1 : (firstB n L).tails.length = 2 * n := by simp [firstB, amt_len]
  refine ⟨by rw [List.length_map, e1]; omega, ?_⟩
  refine ⟨by rw [List.length_map]; simp only [firstB, List.length_map]; omega, wmap_e rowD (fun row => rowD (row ++ [1])) (fun row hr R hR => ?_) ?_⟩
  · have hl : row.length ≤ 1000 := by
      obtain ⟨l, hl, rfl⟩ := List.mem_map.mp (show row ∈ L.map fun l => qs (rowI l) from hr)
      simp only [qs, rowI, List.length_map, List.length_cons, List.length_append, d.w l hl]
      omega
    unfold rowD at hR ⊢
    trivial
    rw [List.map_append] at hR
    exact ⟨by rw [List.length_map]; omega, hR⟩
  trivial
  refine ⟨1, rfl, ?_⟩
  trivial
  refine ⟨by rw [List.length_map]; simp only [firstB, zs, List.length_replicate]; omega, ?_⟩
  trivial
  have gh := LP.helped_start d.w hq hneg hmin
  have hrow : at' ((helpB n L).rows.getD q []) (2 * n) = 1 := by
    have hw := d.w _ (LP.getD_mem (d := ([], 0)) hq)
    unfold helpB at'
    rw [LP.getD_map_lt _ _ _ _ ([], 0) hq]
    have hl : (qs (rowI (L.getD q ([], 0)))).length = 2 * n + 1 := by simp only [qs, rowI, List.length_map, List.length_cons, List.length_append, hw]; omega
    rw [List.getD, List.getElem?_append_right (by omega), hl]
    simp
  have hh : (helpB n L).heads.length = L.length := LP.slk_len n _
  have htl : (helpB n L).tails.length = 2 * n + 1 := by simp [helpB, amt_len]
  have ok := allok_h d _ (LP.helpB_good d.w) hh htl
  refine ⟨⟨_, rfl⟩, a, q, 2 * n, helpB n L, true, ?_, ?_, ok, by rw [hh]; exact hq, by rw [htl]; omega, by rw [hrow]; grind, ?_⟩
  · rw [List.length_append, List.length_map, e1]
    simp
  · unfold bdOf helpB firstB
    simp only [List.map_append, List.map_map, Function.comp_def, List.map_cons, List.map_nil]
  have sh : ((helpB n L).swap q (2 * n)).heads.length = L.length := by rw [← hh]; simp [LP.Bo.swap]
  have st : ((helpB n L).swap q (2 * n)).tails.length = 2 * n + 1 := by rw [← htl]; simp [LP.Bo.swap]
  refine ⟨a, _, true, _, _, _, rfl, rfl, gh.1, gh.2, by rw [sh, st]; exact allok_h d, fun B' f ro' g' f' hl' tl' cl => ?_⟩
  rcases cl with ⟨rfl, ht⟩ | ⟨p, rfl, hp⟩
  · exact .inl (hQ a B' ro' g' f' ht (by omega) (by omega))
  · exact (LP.help_end g' hp).elim
def sp_50 : FSp := fun ds b Q E => ∃ (xs : List D) (p : Nat), ds = [.lst xs, .int p] ∧ p + 1 < xs.length ∧ xs.length ≤ 100000 ∧ Q (.lst (xs.eraseIdx (p + 1))) b
theorem len_50 (ds b Q E) (h : sp_50 ds b Q E) : ds.length = 2 := by
  obtain ⟨i, L, rfl, _⟩ := h
  rfl
theorem erase_cut {α : Type} (xs : List α) (p : Nat) : xs.take p ++ xs.drop (p + 1) = xs.eraseIdx p := (List.eraseIdx_eq_take_drop_succ xs p).symm
theorem meets_50 {G : Gm} (r : G.fr 50 = false) : ∀ ds b Q E, sp_50 ds b Q E → wB G B_50 (kOf (G.fr 50) Q E) (ent N_50.length ds) b := by
  rintro ds b Q E ⟨xs, p, rfl, hp, hl, hQ⟩
  unfold B_50 N_50
  trivial
  have l1 := cut_len xs none (some ((p : Int) + 1))
  have l2 := cut_len xs (some ((p : Int) + 2)) none
  refine ⟨by omega, .inl ?_⟩
  rw [cut_to xs (k := p + 1) (by omega), cut_from xs (k := p + 1 + 1) (by omega), erase_cut]
  exact hQ
def sp_51 : FSp := fun ds b Q E => ∃ (a : Addr) (p : Nat) (B : LP.Bo) (ro : Bool), ds = [.brd a, .int p] ∧ b = some (a, bdOf B ro) ∧ BOk B ∧ p < B.tails.length ∧ Q .non (some (a, bdOf (B.lose p) true))
theorem len_51 (ds b Q E) (h : sp_51 ds b Q E) : ds.length = 2 := by
  obtain ⟨i, L, B, ro, rfl, _⟩ := h
  rfl
theorem meets_51 {G : Gm} (h50 : G.sp 50 = sp_50) (r : G.fr 51 = false) : ∀ ds b Q E, sp_51 ds b Q E → wB G B_51 (kOf (G.fr 51) Q E) (ent N_51.length ds) b := by
  rintro ds b Q E ⟨a, p, B, ro, rfl, rfl, ok, hp, hQ⟩
  unfold B_51 N_51
  trivial
  rw [h50]
  have tl := ok.tl
  have hl := ok.hl
  refine ⟨by rw [List.length_map, ok.rl]; omega, wmap_e rowD (fun row => rowD (row.eraseIdx (p + 1))) (fun row hr R hR => ?_) ?_⟩
  · have := (ok.rw' row hr).1
    refine ⟨_, p, rfl, by rw [List.length_map]; omega, by rw [List.length_map]; omega, ?_⟩
    unfold rowD at hR
    rw [LP.map_erase] at hR
    exact hR
  trivial
  refine ⟨_, p, rfl, by rw [List.length_map, ok.gl]; omega, by rw [List.length_map, ok.gl]; omega, ?_⟩
  trivial
  have l1 := cut_len (B.tails.map D.int) none (some (p : Int))
  have l2 := cut_len (B.tails.map D.int) (some ((p : Int) + 1)) none
  rw [List.length_map] at l1 l2
  refine ⟨by omega, r, .inl ?_⟩
  rw [cut_to (B.tails.map D.int) (k := p) rfl, cut_from (B.tails.map D.int) (k := p + 1) (by omega), erase_cut, ← LP.map_erase, ← LP.map_erase]
  have e : bdOf (B.lose p) true = ⟨B.heads.map D.int, (B.tails.eraseIdx p).map D.int, B.rows.map fun row => rowD (row.eraseIdx (p + 1)), true, (B.goal.eraseIdx (p + 1)).map fr⟩ := by
    unfold bdOf LP.Bo.lose
    simp only [List.map_map, Function.comp_def]
  rw [← e]
  exact hQ
/-- a board of the desk's own system -/
structure Ph2 (n : Nat) (L : List Lim) (B : LP.Bo) : Prop where
  good : ∃ z, Good (labOf (firstB n L)) (sysOf (firstB n L)) z B
  feas : Feas B
  hl : B.heads.length = L.length
  tl : B.tails.length = 2 * n
def sp_52 : FSp := fun ds b Q E => ∃ (a : Addr) (n : Nat) (L : List Lim) (M h : Nat) (B : LP.Bo) (ro : Bool), ds = [.brd a] ∧ b = some (a, bdOf B ro) ∧ DOk n L M h ∧ Good (labOf (helpB n L)) (sysOf (helpB n L)) zHelp B ∧ Feas B ∧ B.heads.length = L.length ∧ B.tails.length = 2 * n + 1 ∧ B.goal.getD 0 0 = 0 ∧
  ∀ B' ro', Ph2 n L B' → Q (.brd a) (some (a, bdOf B' ro'))
theorem len_52 (ds b Q E) (h : sp_52 ds b Q E) : ds.length = 1 := by
  obtain ⟨i, L, B, _, _, _, ro, rfl, _⟩ := h
  rfl
theorem meets_52 {G : Gm} (h45 : G.sp 45 = sp_45) (h51 : G.sp 51 = sp_51) (g3 : G.gc 3 = .tup [.int 0, .int 1]) (g5 : G.gc 5 = .int 0) (r : G.fr 52 = false) : ∀ ds b Q E, sp_52 ds b Q E → wB G B_52 (kOf (G.fr 52) Q E) (ent N_52.length ds) b := by
  rintro ds b Q E ⟨a, n, L, M, h, B, ro, rfl, rfl, d, gd, fs, hl, tl, h0, hQ⟩
  unfold B_52 N_52
  trivial
  rw [h45, h51, g3, g5, show D.tup [.int 0, .int 1] = fr (0 : Rat) from fr_int 0]
  have ok := allok_h d B gd hl tl
  have last : ∀ B1 : LP.Bo, Good (labOf (helpB n L)) (sysOf (helpB n L)) zHelp B1 → Feas B1 → B1.heads.length = L.length → B1.tails.length = 2 * n + 1 → (0 : Int) ∈ B1.tails → Ph2 n L (B1.lose (B1.tails.idxOf 0)) := fun B1 g1 f1 l1 t1 hm => by
    have := LP.lose_good d.w g1 f1 hm rfl
    exact ⟨⟨_, this.1⟩, this.2, l1, by
      have hi := List.idxOf_lt_length_iff.mpr hm
      show (B1.tails.eraseIdx _).length = _
      rw [List.length_eraseIdx_of_lt hi]
      omega⟩
  have fin : ∀ (B1 : LP.Bo) (ro1 : Bool) (s1 s2 : Sl), Good (labOf (helpB n L)) (sysOf (helpB n L)) zHelp B1 → Feas B1 → B1.heads.length = L.length → B1.tails.length = 2 * n + 1 → (0 : Int) ∈ B1.tails → ∃ ns : List Int, B1.tails.map D.int = ns.map .int ∧ (0 : Int) ∈ ns ∧ sp_51 [.brd a, .int (ns.idxOf 0 : Nat)] (some (a, bdOf B1 ro1)) (fun _ b2 => Q (.brd a) b2 ∨ Q (.brd a) none) fun _ => False := fun B1 ro1 s1 s2 g1 f1 l1 t1 hm =>
    ⟨_, rfl, hm, a, _, B1, ro1, rfl, rfl, allok_h d B1 g1 l1 t1, List.idxOf_lt_length_iff.mpr hm, .inl (hQ _ _ (last B1 g1 f1 l1 t1 hm))⟩
  refine ⟨_, rfl, ?_⟩
  trivial
  refine L2.ite2 (fun hz => ?_) fun hz => ?_
  · have hi := List.idxOf_lt_length_iff.mpr hz
    have hg := LP.getD_idxOf hz
    refine ⟨_, rfl, hz, ?_⟩
    obtain ⟨p, hp, hne⟩ := LP.help_place d.w gd hi hg
    have hri : B.heads.idxOf 0 < B.rows.length := by rw [ok.rl]; exact hi
    have hrl := (ok.row hi).1
    refine ⟨fun m δ b' => ∃ j : Nat, j ≤ p ∧ m = p - j ∧ δ = [.vl (.brd a), .vl (.int (B.heads.idxOf 0 : Nat)), .vl (.int j)] ∧ b' = some (a, bdOf B ro), ⟨_, 0, by omega, rfl, rfl, rfl⟩, ?_⟩
    rintro m δ b' ⟨j, hj, rfl, rfl, rfl⟩
    trivial
    refine at_i [] hri rfl ?_
    refine ix_row (by omega : j + 1 < _) (by omega) (q_eqf ?_)
    trivial
    refine L2.ite2 (fun h1 => ?_) fun h1 => ?_
    · have : j ≠ p := fun e => hne (by rw [← e]; exact h1)
      exact ⟨p - (j + 1), by omega, j + 1, by omega, rfl, rfl, True.intro⟩
    · have g2 := LP.help_free gd fs h0 hi hg (by omega : j < B.tails.length) h1
      refine ⟨⟨_, rfl⟩, a, _, j, B, ro, rfl, rfl, ok, hi, by omega, h1, ?_⟩
      trivial
      refine ⟨⟨_, rfl⟩, ?_⟩
      exact fin _ true .no .no g2.1 g2.2.1 (by rw [← hl]; simp [LP.Bo.swap]) (by rw [← tl]; simp [LP.Bo.swap]) g2.2.2.2
  · have hm : (0 : Int) ∈ B.tails := by
      rcases (gd.mem 0).mp LP.zero_lab with q | q
      · exact absurd q hz
      · exact q
    exact ⟨⟨_, rfl⟩, fin B ro .no .no gd fs hl tl hm⟩
end LK

namespace LK
open PySem
local macro_rules | `(tactic| trivial) => `(tactic| (try simp only [ent, List.length, List.map, List.replicate, List.cons_append, List.nil_append, Nat.sub_self, Nat.add_one_sub_one, Nat.reduceAdd, Nat.reduceSub]) <;> try simp only [wB, wS, wE, wEs, wO, wC, wSrc, theB, fld, bd_rows, bd_goal, bd_heads, bd_tails, e_rowlst, true_and, e_limT0, e_limT1, e_limL0, e_limL1, e_fr0, e_fr1, e_dk0, e_dk1, e_ptlen, e_ptlst, len_map, Int.toNat_natCast, e_slt, e_tcat, e_neg, e_abs, e_lent, e_lenl, e_lens, e_lenS, e_tupt, e_tupl, e_lstt, e_lstl, e_inti, e_intb, e_str, e_isInt, e_isBool, e_isTup, e_isLst, e_isStr, e_isN, e_notN, e_add, e_sub, e_mul, e_fdiv, e_mod, e_pow, e_lt, e_le, e_gt, e_ge, e_eqi, e_nei, e_cat, e_tcat, e_ixl, e_ixs, e_ixt0, e_ixt1, e_ixt2, e_max, e_min, e_test, e_seql, e_seqt, e_seqs, e_rng, e_rng2, e_zipl, e_zipt, e_ziptt, e_sll, e_slt, e_sls, e_nm, e_pr, gt, st, ent, List.map, List.replicate, List.length, List.cons_append, List.nil_append, kOf, Nat.sub_self, Nat.add_one_sub_one, Nat.reduceAdd, Nat.reduceSub, reduceCtorEq, decide_eq_true_eq, Bool.not_eq_true', decide_eq_false_iff_not, if_true, if_false, Bool.false_eq_true, ite_true, ite_false])
open LP (dot qs at' solved putIn zs firstB helpB rowI ratio Feas Top Good Lea cof labOf sysOf kB zHelp zGoal diff bas prices)
theorem BOk.atg {B : LP.Bo} (ok : BOk B) {l : Int} (h : l ∈ B.tails) : B.tails.idxOf l + 1 < B.goal.length := by
  have := List.idxOf_lt_length_iff.mpr h
  rw [ok.gl]
  omega
def sp_53 : FSp := fun ds b Q E => ∃ (a : Addr) (l : Int) (B : LP.Bo) (ro : Bool), ds = [.brd a, .int l] ∧ b = some (a, bdOf B ro) ∧ BOk B ∧ Q (fr (-cof B l)) b
theorem len_53 (ds b Q E) (h : sp_53 ds b Q E) : ds.length = 2 := by
  obtain ⟨i, L, B, ro, rfl, _⟩ := h
  rfl
theorem meets_53 {G : Gm} (h11 : G.sp 11 = sp_11) (g3 : G.gc 3 = .tup [.int 0, .int 1]) (r : G.fr 53 = false) : ∀ ds b Q E, sp_53 ds b Q E → wB G B_53 (kOf (G.fr 53) Q E) (ent N_53.length ds) b := by
  rintro ds b Q E ⟨a, l, B, ro, rfl, rfl, ok, hQ⟩
  unfold B_53 N_53
  trivial
  rw [h11, g3, show D.tup [.int 0, .int 1] = fr (0 : Rat) from fr_int 0]
  refine ⟨_, rfl, ?_⟩
  trivial
  refine L2.ite2 (fun hm => ?_) fun hm => .inl ?_
  · refine ⟨_, rfl, hm, ?_⟩
    refine at_i 0 (ok.atg hm) (by omega) ⟨_, rfl, .inl ?_⟩
    have e : cof B l = B.goal.getD (B.tails.idxOf l + 1) 0 := if_pos hm
    rw [← e]
    exact hQ
  · have e : cof B l = 0 := if_neg hm
    rw [e] at hQ
    exact hQ
def sp_54 : FSp := fun ds b Q E => ∃ (a : Addr) (n : Nat) (L : List Lim) (B : LP.Bo) (ro : Bool), ds = [deskD n L, .brd a] ∧ b = some (a, bdOf B ro) ∧ BOk B ∧ L.length ≤ 100000 ∧ Q (ptD (prices n L B)) b
theorem len_54 (ds b Q E) (h : sp_54 ds b Q E) : ds.length = 2 := by
  obtain ⟨i, L, B, ro, _, rfl, _⟩ := h
  rfl
theorem meets_54 {G : Gm} (h40 : G.sp 40 = sp_40) (h53 : G.sp 53 = sp_53) (r : G.fr 54 = false) : ∀ ds b Q E, sp_54 ds b Q E → wB G B_54 (kOf (G.fr 54) Q E) (ent N_54.length ds) b := by
  rintro ds b Q E ⟨a, n, L, B, ro, rfl, rfl, ok, hl, hQ⟩
  unfold B_54 N_54
  trivial
  rw [h40, h53]
  refine ⟨by omega, by simp [rngD]; omega, wmap_range (fun k => fr (-cof B (2 * (n : Int) + 1 + (k : Int)))) (fun k hk R hR => ?_) (.inl ?_)⟩
  · trivial
    exact ⟨_, _, rfl, a, _, B, ro, rfl, rfl, ok, hR⟩
  · have e : ptD (prices n L B) = .lst ((List.range L.length).map fun k : Nat => fr (-cof B (2 * (n : Int) + 1 + (k : Int)))) := by
      unfold ptD prices LP.slk
      simp only [List.map_map, Function.comp_def]
    rw [← e]
    exact hQ
/-- shares that clash -/
structure Clash (n : Nat) (L : List Lim) (h : Nat) (sh : List Rat) : Prop where
  len : sh.length = L.length
  nn : ∀ p ∈ sh, 0 ≤ p
  ws : ∀ j, j < n → dot sh (LP.colq L j) = 0
  bd : dot sh (LP.bq L) < 0
  sz : ∀ p ∈ sh, LP.Fz h p
def sp_55 : FSp := fun ds b Q E => ∃ (n : Nat) (L : List Lim) (M h : Nat), ds = [deskD n L] ∧ b = none ∧ DOk n L M h ∧ (∀ a B ro, Ph2 n L B → Q (.tup [.brd a, .non]) (some (a, bdOf B ro))) ∧ ∀ sh, Clash n L h sh → Q (.tup [.non, ptD sh]) none
theorem len_55 (ds b Q E) (h : sp_55 ds b Q E) : ds.length = 1 := by
  obtain ⟨i, L, B, ro, rfl, _⟩ := h
  rfl
theorem int_lt {M h : Nat} {i : Int} (hi : i.natAbs ≤ M) (hM : M < 2 ^ h) (hh : h ≤ 900) : i.natAbs < 2 ^ 1000 := Nat.lt_of_lt_of_le (Nat.lt_of_le_of_lt hi hM) (Nat.pow_le_pow_right (by decide) (by omega))
theorem prices_len (n : Nat) (L : List Lim) (B : LP.Bo) : (prices n L B).length = L.length := by simp [prices, LP.slk]
theorem meets_55 {G : Gm} (h39 : G.sp 39 = sp_39) (h42 : G.sp 42 = sp_42) (h49 : G.sp 49 = sp_49) (h52 : G.sp 52 = sp_52) (h54 : G.sp 54 = sp_54) (g3 : G.gc 3 = .tup [.int 0, .int 1]) (r : G.fr 55 = false) : ∀ ds b Q E, sp_55 ds b Q E → wB G B_55 (kOf (G.fr 55) Q E) (ent N_55.length ds) b := by
  rintro ds b Q E ⟨n, L, M, h, rfl, rfl, d, hQ, hC⟩
  unfold B_55 N_55
  trivial
  rw [h39, h42, h49, h52, h54, g3, show D.tup [.int 0, .int 1] = fr (0 : Rat) from fr_int 0]
  have n1 := d.n1
  have ll := d.ll
  refine ⟨by rw [List.length_map]; omega, wmap_e limT (fun l => oneD l.2) (fun l _ R hR => ?_) ?_⟩
  · trivial
    exact hR
  have e1 : (L.map fun l => oneD l.2) = (L.map fun l => l.2).map oneD := by rw [List.map_map]; rfl
  rw [e1]
  have gL : ∀ k, k < L.length → (L.map fun l => l.2).getD k 0 = (L.getD k ([], 0)).2 := fun k hk => LP.getD_map_lt _ _ _ _ _ hk
  refine ⟨_, rfl, by rw [List.length_map]; omega, fun i hi => ?_, fun f hf => ?_⟩
  · obtain ⟨l, hl, rfl⟩ := List.mem_map.mp hi
    exact int_lt (d.lb l hl).2 d.mh d.h9
  trivial
  rcases hf with ⟨rfl, hn⟩ | ⟨k, rfl, hk, hneg, hmin⟩
  · rw [if_pos (by decide)]
    refine ⟨n, L, rfl, rfl, by omega, by omega, fun l hl => by rw [d.w l hl]; omega, fun a => .inl (hQ a _ _ ⟨⟨_, (LP.int1 d.m1 d.w d.lb).good (by simp [firstB, zs, amt_len])⟩, fun i hi => ?_, LP.slk_len n _, amt_len n⟩)⟩
    have hi' : i < L.length := by rw [show (firstB n L).heads.length = L.length from LP.slk_len n _] at hi; exact hi
    unfold firstB
    rw [LP.getD_map_lt _ _ _ _ ([], 0) hi']
    have := hn i (by rw [List.length_map]; exact hi')
    rw [gL i hi'] at this
    show 0 ≤ ((L.getD i ([], 0)).2 : Rat)
    exact Rat.intCast_nonneg.mpr this
  · rw [if_neg (by omega)]
    rw [List.length_map] at hk
    rw [gL k hk] at hneg
    refine ⟨n, L, M, h, k, rfl, rfl, d, hk, hneg, fun j hj => ?_, fun a B ro gd fs tp hl tl => ?_⟩
    · have := hmin j (by rw [List.length_map]; exact hj)
      rwa [gL k hk, gL j hj] at this
    have ok := allok_h d B gd hl tl
    trivial
    refine at_i 0 (by rw [ok.gl]; omega : 0 < B.goal.length) rfl (q_nef ?_)
    trivial
    refine L2.ite2 (fun hz => ?_) fun hz => ?_
    · refine ⟨a, n, L, B, ro, rfl, rfl, ok, by omega, .inr ?_⟩
      have hc := LP.help_clash d.w gd fs tp hz
      have k2 := d.k2
      rw [← tl] at k2
      have et : B.tails.length = (helpB n L).tails.length := by rw [tl]; simp [helpB, amt_len]
      exact hC _ ⟨prices_len n L B, hc.1, hc.2.1, hc.2.2, LP.prices_fz (LP.goal_sz (LP.inth d.m1 d.w d.lb) gd et (LP.zHelp_zb LP.zero_lab) k2 (by omega)) gd.gl⟩
    · exact ⟨a, n, L, M, h, B, ro, rfl, rfl, d, gd, fs, hl, tl, Classical.not_not.mp hz, fun B' ro' p2 => .inl (hQ a B' ro' p2)⟩
def nowB (B : LP.Bo) (l : Int) : Rat := if l ∈ B.heads then (B.rows.getD (B.heads.idxOf l) []).getD 0 0 else 0
def sp_56 : FSp := fun ds b Q E => ∃ (a : Addr) (l : Int) (B : LP.Bo) (ro : Bool), ds = [.brd a, .int l] ∧ b = some (a, bdOf B ro) ∧ B.rows.length = B.heads.length ∧ (∀ row ∈ B.rows, 0 < row.length) ∧ Q (fr (nowB B l)) b
theorem len_56 (ds b Q E) (h : sp_56 ds b Q E) : ds.length = 2 := by
  obtain ⟨i, L, B, ro, rfl, _⟩ := h
  rfl
theorem meets_56 {G : Gm} (g3 : G.gc 3 = .tup [.int 0, .int 1]) (r : G.fr 56 = false) : ∀ ds b Q E, sp_56 ds b Q E → wB G B_56 (kOf (G.fr 56) Q E) (ent N_56.length ds) b := by
  rintro ds b Q E ⟨a, l, B, ro, rfl, rfl, rl, rp, hQ⟩
  unfold B_56 N_56
  trivial
  rw [g3, show D.tup [.int 0, .int 1] = fr (0 : Rat) from fr_int 0]
  refine ⟨_, rfl, ?_⟩
  trivial
  refine L2.ite2 (fun hm => ?_) fun hm => .inl ?_
  · have hi := List.idxOf_lt_length_iff.mpr hm
    have hi2 : B.heads.idxOf l < B.rows.length := by rw [rl]; exact hi
    refine ⟨_, rfl, hm, ?_⟩
    refine at_i [] hi2 rfl (ix_row (rp _ (LP.getD_mem hi2)) rfl (.inl ?_))
    have e : nowB B l = (B.rows.getD (B.heads.idxOf l) []).getD 0 0 := if_pos hm
    rw [← e]
    exact hQ
  · have e : nowB B l = 0 := if_neg hm
    rw [e] at hQ
    exact hQ
theorem now_bas {lab S z B} (G : Good lab S z B) {l : Int} (h : l ∈ lab) : nowB B l = bas B l := by
  unfold nowB
  split
  · rename_i hm
    have := LP.bas_h G (List.idxOf_lt_length_iff.mpr hm)
    rw [LP.getD_idxOf hm] at this
    exact this.symm
  · rename_i hm
    rcases (G.mem l).mp h with q | q
    · exact absurd q hm
    · exact (LP.bas_t G q).symm
theorem sz_sub' {x y : Rat} {n : Nat} (hx : Sz n x) (hy : Sz n y) : Sz (2 * n + 1) (x - y) := sz_sub hx hy
def sp_57 : FSp := fun ds b Q E => ∃ (a : Addr) (n : Nat) (L : List Lim) (M h : Nat) (B : LP.Bo) (ro : Bool), ds = [deskD n L, .brd a] ∧ b = some (a, bdOf B ro) ∧ DOk n L M h ∧ Ph2 n L B ∧ Q (ptD (diff n (bas B))) b
theorem len_57 (ds b Q E) (h : sp_57 ds b Q E) : ds.length = 2 := by
  obtain ⟨i, L, B, ro, _, _, _, rfl, _⟩ := h
  rfl
theorem ph2_bas {n : Nat} {L : List Lim} {M h : Nat} {B : LP.Bo} (d : DOk n L M h) (p : Ph2 n L B) : ∃ D : Int, D ≠ 0 ∧ D.natAbs ≤ kB (2 * n) M ∧ ∀ l ∈ labOf (firstB n L), LP.OfD D (kB (2 * n) M) (bas B l) := by
  obtain ⟨⟨z, G⟩, _, _, tl⟩ := p
  have := LP.bas_col (LP.int1 d.m1 d.w d.lb) G (by rw [tl]; simp [firstB, amt_len])
  rwa [tl] at this
theorem meets_57 {G : Gm} (h12 : G.sp 12 = sp_12) (h56 : G.sp 56 = sp_56) (r : G.fr 57 = false) : ∀ ds b Q E, sp_57 ds b Q E → wB G B_57 (kOf (G.fr 57) Q E) (ent N_57.length ds) b := by
  rintro ds b Q E ⟨a, n, L, M, h, B, ro, rfl, rfl, d, p2, hQ⟩
  unfold B_57 N_57
  trivial
  rw [h12, h56]
  have n1 := d.n1
  obtain ⟨D, D0, D1, D2⟩ := ph2_bas d p2
  obtain ⟨⟨z, gd⟩, fs, hl, tl⟩ := p2
  have sz : ∀ l ∈ LP.amt n, nowB B l = bas B l ∧ Sz 1000 (bas B l) := fun l hl => by
    have hm := amt_lab n L l hl
    exact ⟨now_bas gd hm, fz1000 ((D2 l hm).fz D0 (Nat.lt_of_le_of_lt D1 d.k1) d.k1) d.h9⟩
  have rp : ∀ row ∈ B.rows, 0 < row.length := fun row hr => by rw [gd.rw' row hr]; omega
  refine ⟨by omega, by simp [rngD]; omega, wmap_range (fun k => fr (bas B ((k : Int) + 1) - bas B ((n : Int) + (k : Int) + 1))) (fun k hk R hR => ?_) (.inl ?_)⟩
  · trivial
    have s1 := sz ((k : Int) + 1) (LP.amt_mem.mpr ⟨by omega, by omega⟩)
    have s2 := sz ((n : Int) + (k : Int) + 1) (LP.amt_mem.mpr ⟨by omega, by omega⟩)
    refine ⟨a, _, B, ro, rfl, rfl, gd.rl, rp, a, _, B, ro, rfl, rfl, gd.rl, rp, ?_⟩
    rw [s1.1, s2.1]
    exact ⟨_, _, rfl, s1.2.mono (by decide), s2.2.mono (by decide), hR⟩
  · have e : ptD (diff n (bas B)) = .lst ((List.range n).map fun k : Nat => fr (bas B ((k : Int) + 1) - bas B ((n : Int) + (k : Int) + 1))) := by
      unfold ptD diff
      rw [List.map_map]
      rfl
    rw [← e]
    exact hQ
/-- a point of a desk, well sized -/
structure Pt (n : Nat) (L : List Lim) (h : Nat) (pt : List Rat) : Prop where
  len : pt.length = n
  keeps : LP.Keeps L pt
  sz : LP.PtSz h pt
theorem pow_dbl {a h : Nat} (ha : a < 2 ^ h) : a + a < 2 ^ (h + 1) := by rw [Nat.pow_succ]; omega
theorem ph2_pt {n : Nat} {L : List Lim} {M h : Nat} {B : LP.Bo} (d : DOk n L M h) (p : Ph2 n L B) : Pt n L (h + 1) (diff n (bas B)) := by
  obtain ⟨D, D0, D1, D2⟩ := ph2_bas d p
  obtain ⟨⟨z, gd⟩, fs, _, _⟩ := p
  have k1 := d.k1
  have := pow_dbl k1
  exact ⟨LP.diff_len _ _, LP.point_keeps d.w gd fs, LP.PtSz.of D0 (by omega) this (LP.diff_ofD fun l hl => D2 l (amt_lab n L l hl))⟩
def sp_58 : FSp := fun ds b Q E => ∃ (n : Nat) (L : List Lim) (M h : Nat), ds = [deskD n L] ∧ b = none ∧ DOk n L M h ∧ (∀ pt, Pt n L (h + 1) pt → Q (.tup [.str "point", ptD pt]) none) ∧ ∀ sh, Clash n L h sh → Q (.tup [.str "clash", ptD sh]) none
theorem len_58 (ds b Q E) (h : sp_58 ds b Q E) : ds.length = 1 := by
  obtain ⟨i, L, B, ro, rfl, _⟩ := h
  rfl
theorem meets_58 {G : Gm} (h55 : G.sp 55 = sp_55) (h57 : G.sp 57 = sp_57) (r : G.fr 58 = false) : ∀ ds b Q E, sp_58 ds b Q E → wB G B_58 (kOf (G.fr 58) Q E) (ent N_58.length ds) b := by
  rintro ds b Q E ⟨n, L, M, h, rfl, rfl, d, hQ, hC⟩
  unfold B_58 N_58
  trivial
  rw [h55, h57]
  refine ⟨n, L, M, h, rfl, rfl, d, fun a B ro p2 => ?_, fun sh hc => ?_⟩
  · trivial
    exact ⟨a, n, L, M, h, B, ro, rfl, rfl, d, p2, .inr (hQ _ (ph2_pt d p2))⟩
  · trivial
    exact .inl (hC sh hc)
end LK

namespace LK
open PySem
local macro_rules | `(tactic| trivial) => `(tactic| (try simp only [ent, List.length, List.map, List.replicate, List.cons_append, List.nil_append, Nat.sub_self, Nat.add_one_sub_one, Nat.reduceAdd, Nat.reduceSub]) <;> try simp only [wB, wS, wE, wEs, wO, wC, wSrc, theB, fld, bd_rows, bd_goal, bd_heads, bd_tails, e_rowlst, true_and, e_limT0, e_limT1, e_limL0, e_limL1, e_fr0, e_fr1, e_dk0, e_dk1, e_ptlen, e_ptlst, len_map, Int.toNat_natCast, e_slt, e_tcat, e_neg, e_abs, e_lent, e_lenl, e_lens, e_lenS, e_tupt, e_tupl, e_lstt, e_lstl, e_inti, e_intb, e_str, e_isInt, e_isBool, e_isTup, e_isLst, e_isStr, e_isN, e_notN, e_add, e_sub, e_mul, e_fdiv, e_mod, e_pow, e_lt, e_le, e_gt, e_ge, e_eqi, e_nei, e_cat, e_tcat, e_ixl, e_ixs, e_ixt0, e_ixt1, e_ixt2, e_max, e_min, e_test, e_seql, e_seqt, e_seqs, e_rng, e_rng2, e_zipl, e_zipt, e_ziptt, e_sll, e_slt, e_sls, e_nm, e_pr, gt, st, ent, List.map, List.replicate, List.length, List.cons_append, List.nil_append, kOf, Nat.sub_self, Nat.add_one_sub_one, Nat.reduceAdd, Nat.reduceSub, reduceCtorEq, decide_eq_true_eq, Bool.not_eq_true', decide_eq_false_iff_not, if_true, if_false, Bool.false_eq_true, ite_true, ite_false])
open LP (dot qs kB zs)
/-! ### the law's own looks -/
theorem getD_take' {α : Type} (xs : List α) (k j : Nat) (d : α) (h : j < k) : (xs.take k).getD j d = xs.getD j d := by simp [List.getD, List.getElem?_take, h]
theorem dot_takeq : ∀ (k : Nat) (as xs : List Rat), k < as.length → k < xs.length → dot (as.take (k + 1)) (xs.take (k + 1)) = dot (as.take k) (xs.take k) + as.getD k 0 * xs.getD k 0
  | 0, w :: ws, a :: pt, _, _ => by simp [LP.dot]; grind
  | k + 1, w :: ws, a :: pt, h, h' => by
    have := dot_takeq k ws pt (by simpa using h) (by simpa using h')
    simp only [List.take_succ_cons, LP.dot_cons, List.getD_cons_succ]
    rw [this]
    grind
/-- sizes of sums by shares -/
structure TkOk (n : Nat) (L : List Lim) (sh : List Rat) : Prop where
  w : LP.Wf n L
  nl : n ≤ 1000
  ll : L.length ≤ 1000
  len : sh.length = L.length
  ps : ∀ j k, k < n → Sz 2900 (dot (sh.take j) ((LP.colq L k).take j))
  pb : ∀ j, Sz 2900 (dot (sh.take j) ((LP.bq L).take j))
  ss : ∀ p ∈ sh, Sz 2900 p
  li : ∀ l ∈ L, (∀ a ∈ l.1, a.natAbs < 2 ^ 1000) ∧ l.2.natAbs < 2 ^ 1000
theorem sz_add' {x y : Rat} {n m : Nat} (hx : Sz n x) (hy : Sz m y) : Sz (n + m + 1) (x + y) := by
  rw [← add_divInt]
  refine sz_divInt (Int.mul_ne_zero (den_ne x) (den_ne y)) ?_ ?_
  · have h1 := natAbs_mul_lt hx.num hy.den
    have h2 := natAbs_mul_lt hy.num hx.den
    rw [Nat.add_comm m n] at h2
    exact natAbs_add_lt h1 h2
  · exact Nat.lt_of_lt_of_le (natAbs_mul_lt hx.den hy.den) (Nat.pow_le_pow_right (by decide) (by omega))
theorem sz_imul {x : Rat} {i : Int} {n m : Nat} (hx : Sz n x) (hi : i.natAbs < 2 ^ m) : Sz (n + m) (x * (i : Rat)) := by
  have e : x * (i : Rat) = Rat.divInt (x.num * i) x.den := by
    conv => lhs; rw [← Rat.num_divInt_den x]
    rw [Rat.divInt_eq_div, Rat.divInt_eq_div, Rat.intCast_mul]
    grind
  rw [e]
  exact sz_divInt (den_ne x) (natAbs_mul_lt hx.num hi) (Nat.lt_of_lt_of_le hx.den (Nat.pow_le_pow_right (by decide) (by omega)))
theorem sz_zero (n : Nat) (h : 0 < n) : Sz n (0 : Rat) := Sz.int (i := 0) (Nat.pow_pos (by decide)) h
theorem sz_psum {h m : Nat} {sh : List Rat} {cs : List Int} (hs : ∀ p ∈ sh, Sz h p) (hc : ∀ c ∈ cs, c.natAbs < 2 ^ m) (hl : cs.length = sh.length) : ∀ j, j ≤ sh.length → Sz (j * (h + m + 1) + 1) (dot (sh.take j) ((qs cs).take j))
  | 0, _ => by simp only [List.take_zero, LP.dot_nil_l]; exact sz_zero _ (by omega)
  | j + 1, hj => by
    have ih := sz_psum hs hc hl j (by omega)
    have hq : (qs cs).length = sh.length := by simp [qs, hl]
    rw [dot_takeq j _ _ (by omega) (by omega)]
    have e : (qs cs).getD j 0 = ((cs.getD j 0 : Int) : Rat) := by
      unfold LP.qs
      exact LP.getD_map_lt _ _ _ _ 0 (by omega)
    rw [e]
    have := sz_add' ih (sz_imul (hs _ (LP.getD_mem (d := 0) (by omega : j < sh.length))) (hc _ (LP.getD_mem (d := 0) (by omega : j < cs.length))))
    refine this.mono ?_
    rw [Nat.add_mul, Nat.one_mul]
    omega
theorem TkOk.of {n : Nat} {L : List Lim} {sh : List Rat} {h m : Nat} (w : LP.Wf n L) (nl : n ≤ 1000) (ll : L.length ≤ 1000) (len : sh.length = L.length) (hs : ∀ p ∈ sh, Sz h p) (hi : ∀ l ∈ L, (∀ a ∈ l.1, a.natAbs < 2 ^ m) ∧ l.2.natAbs < 2 ^ m) (hm : L.length * (h + m + 1) + 1 ≤ 2900) (h2 : h ≤ 2900) (m2 : m ≤ 1000) (m1 : 0 < m) : TkOk n L sh := by
  have up : ∀ {i : Nat}, i < 2 ^ m → i < 2 ^ 1000 := fun q => Nat.lt_of_lt_of_le q (Nat.pow_le_pow_right (by decide) m2)
  have gen : ∀ cs : List Int, cs.length = L.length → (∀ c ∈ cs, c.natAbs < 2 ^ m) → ∀ j, Sz 2900 (dot (sh.take j) ((qs cs).take j)) := fun cs hc1 hc2 j => by
    by_cases hj : j ≤ sh.length
    · refine (sz_psum hs hc2 (by omega) j hj).mono ?_
      have : j * (h + m + 1) ≤ L.length * (h + m + 1) := Nat.mul_le_mul_right _ (by omega)
      omega
    · have := (sz_psum hs hc2 (by omega) sh.length (Nat.le_refl _)).mono (show sh.length * (h + m + 1) + 1 ≤ 2900 by rw [len]; omega)
      rw [dot_take_all _ _ _ (.inl (Nat.le_refl _))] at this
      rw [dot_take_all _ _ _ (.inl (by omega))]
      exact this
  refine ⟨w, nl, ll, len, fun j k hk => ?_, fun j => ?_, fun p hp => (hs p hp).mono h2, fun l hl => ⟨fun a ha => up ((hi l hl).1 a ha), up (hi l hl).2⟩⟩
  · have e : LP.colq L k = qs (L.map fun l => l.1.getD k 0) := by unfold LP.colq LP.qs; rw [List.map_map]; rfl
    rw [e]
    refine gen _ (by simp) (fun c hc => ?_) j
    obtain ⟨l, hl, rfl⟩ := List.mem_map.mp hc
    exact (hi l hl).1 _ (LP.getD_mem (by rw [w l hl]; exact hk))
  · have e : LP.bq L = qs (L.map fun l => l.2) := by unfold LP.bq LP.qs; rw [List.map_map]; rfl
    rw [e]
    refine gen _ (by simp) (fun c hc => ?_) j
    obtain ⟨l, hl, rfl⟩ := List.mem_map.mp hc
    exact (hi l hl).2
def takW (n : Nat) (L : List Lim) (sh : List Rat) : List Rat := (List.range n).map fun j => dot sh (LP.colq L j)
def sp_59 : FSp := fun ds b Q E => ∃ (n : Nat) (L : List Lim) (sh : List Rat), ds = [.lst (L.map limL), ptD sh, .int n] ∧ TkOk n L sh ∧ Q (.tup [ptD (takW n L sh), fr (dot sh (LP.bq L))]) b
theorem len_59 (ds b Q E) (h : sp_59 ds b Q E) : ds.length = 3 := by
  obtain ⟨i, L, B, rfl, _⟩ := h
  rfl
theorem colq_len (L : List Lim) (k : Nat) : (LP.colq L k).length = L.length := by simp [LP.colq]
theorem bq_len (L : List Lim) : (LP.bq L).length = L.length := by simp [LP.bq]
theorem meets_59 {G : Gm} (h26 : G.sp 26 = sp_26) (r : G.fr 59 = false) : ∀ ds b Q E, sp_59 ds b Q E → wB G B_59 (kOf (G.fr 59) Q E) (ent N_59.length ds) b := by
  rintro ds b Q E ⟨n, L, sh, rfl, o, hQ⟩
  unfold B_59 N_59
  trivial
  rw [h26]
  have nl := o.nl
  have ll := o.ll
  refine ⟨by omega, by simp [rngD]; omega, wmap_range (fun _ => .tup [.int 0, .int 1]) (fun k hk R hR => ?_) ?_⟩
  · trivial
    exact hR
  rw [show D.tup [.int 0, .int 1] = fr (0 : Rat) from fr_int 0]
  refine ⟨by omega, wfor_range (fun j δ b' => ∃ s5 s6 : Sl, δ = [.vl (.lst (L.map limL)), .vl (ptD sh), .vl (.int n), .ow (((List.range n).map fun k => dot (sh.take j) ((LP.colq L k).take j)).map fr), .vl (fr (dot (sh.take j) ((LP.bq L).take j))), s5, s6] ∧ b' = b) ⟨.no, .no, ?_, rfl⟩ ?_ ?_⟩
  · simp only [List.take_zero, LP.dot_nil_l, List.map_map, Function.comp_def]
  · rintro j hj δ b' ⟨s5, s6, rfl, rfl⟩ R hR
    have hlm := LP.getD_mem (d := (([], 0) : Lim)) hj
    have hli := o.li _ hlm
    have hw := o.w _ hlm
    have hsj : j < sh.length := by rw [o.len]; exact hj
    trivial
    refine ⟨by omega, wfor_range (fun k δ b2 => ∃ s6 : Sl, δ = [.vl (.lst (L.map limL)), .vl (ptD sh), .vl (.int n), .ow (((List.range n).map fun i => dot (sh.take (if i < k then j + 1 else j)) ((LP.colq L i).take (if i < k then j + 1 else j))).map fr), .vl (fr (dot (sh.take j) ((LP.bq L).take j))), .vl (.int j), s6] ∧ b2 = b') ⟨s6, by simp, rfl⟩ ?_ ?_⟩
    · rintro k hk δ b2 ⟨s6, rfl, rfl⟩ R2 hR2
      have e0 : ((List.range n).map fun i => dot (sh.take (if i < k then j + 1 else j)) ((LP.colq L i).take (if i < k then j + 1 else j))).getD k 0 = dot (sh.take j) ((LP.colq L k).take j) := by
        rw [LP.getD_map_lt _ _ _ _ 0 (by simpa using hk)]
        simp [List.getD, hk]
      trivial
      refine at_i 0 (by simpa using hk) rfl ?_
      unfold ptD
      refine ix_l 0 hsj (ix_l ([], 0) hj ?_)
      trivial
      refine ix_l 0 (by rw [hw]; exact hk) ?_
      rw [fr_int, e0]
      have wz : Sz 2900 (((L.getD j ([], 0)).1.getD k 0 : Int) : Rat) := (Sz.int (hli.1 _ (LP.getD_mem (d := 0) (by rw [hw]; exact hk))) (by decide)).mono (by decide)
      refine ⟨_, _, _, rfl, o.ps j k hk, o.ss _ (LP.getD_mem hsj), wz, k, ixN_nn (by simpa using hk) rfl, hR2 _ _ ⟨.vl (.int k), ?_, rfl⟩⟩
      have e1 : dot (sh.take j) ((LP.colq L k).take j) + sh.getD j 0 * (((L.getD j ([], 0)).1.getD k 0 : Int) : Rat) = dot (sh.take (j + 1)) ((LP.colq L k).take (j + 1)) := by
        rw [dot_takeq j _ _ hsj (by rw [colq_len]; exact hj)]
        congr 2
        unfold LP.colq
        exact (LP.getD_map_lt (fun l : Lim => ((l.1.getD k 0 : Int) : Rat)) L j 0 ([], 0) hj).symm
      have e2 : ((((List.range n).map fun i => dot (sh.take (if i < k then j + 1 else j)) ((LP.colq L i).take (if i < k then j + 1 else j))).map fr).set k (fr (dot (sh.take (j + 1)) ((LP.colq L k).take (j + 1))))) = ((List.range n).map fun i => dot (sh.take (if i < k + 1 then j + 1 else j)) ((LP.colq L i).take (if i < k + 1 then j + 1 else j))).map fr := by
        rw [map_set_fr]
        congr 1
        apply List.ext_getElem
        · simp
        · intro i h1 h2
          simp only [List.length_set, List.length_map, List.length_range] at h1
          rw [List.getElem_set]
          by_cases ei : k = i
          · subst ei
            simp
          · rw [if_neg ei]
            have : (i < k) ↔ (i < k + 1) := by omega
            simp only [List.getElem_map, List.getElem_range, this]
      rw [e1, e2]
      rfl
    · rintro δ b2 ⟨s6, rfl, rfl⟩
      trivial
      unfold ptD
      refine ix_l 0 hsj (ix_l ([], 0) hj ?_)
      trivial
      rw [fr_int]
      have wz : Sz 2900 (((L.getD j ([], 0)).2 : Int) : Rat) := (Sz.int hli.2 (by decide)).mono (by decide)
      refine ⟨_, _, _, rfl, o.pb j, o.ss _ (LP.getD_mem hsj), wz, hR _ _ ⟨.vl (.int j), s6, ?_, rfl⟩⟩
      have e1 : dot (sh.take j) ((LP.bq L).take j) + sh.getD j 0 * (((L.getD j ([], 0)).2 : Int) : Rat) = dot (sh.take (j + 1)) ((LP.bq L).take (j + 1)) := by
        rw [dot_takeq j _ _ hsj (by rw [bq_len]; exact hj)]
        congr 2
        unfold LP.bq
        exact (LP.getD_map_lt (fun l : Lim => ((l.2 : Int) : Rat)) L j 0 ([], 0) hj).symm
      have e2 : ((List.range n).map fun i => dot (sh.take (if i < n then j + 1 else j)) ((LP.colq L i).take (if i < n then j + 1 else j))) = (List.range n).map fun i => dot (sh.take (j + 1)) ((LP.colq L i).take (j + 1)) := List.map_congr_left fun i hi => by
        rw [if_pos (by simpa using hi)]
      rw [e1, e2]
      rfl
  · rintro δ b' ⟨s5, s6, rfl, rfl⟩
    trivial
    have e2 : ((List.range n).map fun i => dot (sh.take L.length) ((LP.colq L i).take L.length)) = takW n L sh := List.map_congr_left fun i hi => dot_take_all _ _ _ (.inl (by rw [o.len]; exact Nat.le_refl _))
    rw [e2, dot_take_all sh (LP.bq L) L.length (.inl (by rw [o.len]; exact Nat.le_refl _))]
    exact .inl hQ
def sp_60 : FSp := fun ds b Q E => ∃ (pt : List Rat) (n : Int), ds = [ptD pt, .int n] ∧ Q (.bl (decide ((pt.length : Int) = n))) b
theorem len_60 (ds b Q E) (h : sp_60 ds b Q E) : ds.length = 2 := by
  obtain ⟨i, L, rfl, _⟩ := h
  rfl
theorem meets_60 {G : Gm} (h8 : G.sp 8 = sp_8) (r : G.fr 60 = false) : ∀ ds b Q E, sp_60 ds b Q E → wB G B_60 (kOf (G.fr 60) Q E) (ent N_60.length ds) b := by
  rintro ds b Q E ⟨pt, n, rfl, hQ⟩
  unfold B_60 N_60
  trivial
  rw [h8]
  refine ⟨rfl, L2.ite2 (fun h => ?_) fun h => ?_⟩
  · simp [ptD, isLstD] at h
  refine L2.ite2 (fun h1 => .inl ?_) fun h1 => ?_
  · rw [decide_eq_false h1] at hQ
    exact hQ
  unfold ptD
  trivial
  refine wfor_map fr (fun pre δ b' => (∃ s, δ = [.vl (.lst (pt.map fr)), .vl (.int n), s]) ∧ b' = b) ⟨⟨_, rfl⟩, rfl⟩ ?_ ?_
  · rintro pre x post e δ b' ⟨⟨s, rfl⟩, rfl⟩ R hR
    trivial
    refine ⟨_, rfl, rfl, ?_⟩
    rw [isFrac_fr]
    trivial
    exact hR _ _ ⟨⟨_, rfl⟩, rfl⟩
  · rintro δ b' ⟨⟨s, rfl⟩, rfl⟩
    trivial
    rw [decide_eq_true (Classical.not_not.mp h1)] at hQ
    exact .inl hQ
def sp_61 : FSp := fun ds b Q E => ∃ (pt : List Rat) (n : Int), ds = [ptD pt, .int n] ∧ (pt.length : Int) = n ∧ (∀ p ∈ pt, 0 ≤ p) ∧ Q (.bl true) b
theorem len_61 (ds b Q E) (h : sp_61 ds b Q E) : ds.length = 2 := by
  obtain ⟨i, L, rfl, _⟩ := h
  rfl
theorem meets_61 {G : Gm} (h60 : G.sp 60 = sp_60) (r : G.fr 61 = false) : ∀ ds b Q E, sp_61 ds b Q E → wB G B_61 (kOf (G.fr 61) Q E) (ent N_61.length ds) b := by
  rintro ds b Q E ⟨pt, n, rfl, hl, hn, hQ⟩
  unfold B_61 N_61
  trivial
  rw [h60]
  refine ⟨pt, n, rfl, ?_⟩
  rw [decide_eq_true hl]
  unfold ptD
  trivial
  refine wfor_map fr (fun pre δ b' => (∃ s, δ = [.vl (.lst (pt.map fr)), .vl (.int n), s]) ∧ b' = b) ⟨⟨_, rfl⟩, rfl⟩ ?_ ?_
  · rintro pre x post e δ b' ⟨⟨s, rfl⟩, rfl⟩ R hR
    trivial
    refine L2.ite2 (fun h => ?_) fun h => hR _ _ ⟨⟨_, rfl⟩, rfl⟩
    have := hn x (by rw [e]; simp)
    have h' : x < 0 := by rw [Rat.lt_iff]; simpa using h
    grind
  · rintro δ b' ⟨⟨s, rfl⟩, rfl⟩
    trivial
    exact .inl hQ
def sp_62 : FSp := fun ds b Q E => ∃ (n : Nat) (L : List Lim) (sh : List Rat), ds = [.lst (L.map limL), ptD sh, .int n] ∧ TkOk n L sh ∧ (∀ p ∈ sh, 0 ≤ p) ∧ (∀ j, j < n → dot sh (LP.colq L j) = 0) ∧ dot sh (LP.bq L) < 0 ∧ Q (.bl true) b
theorem len_62 (ds b Q E) (h : sp_62 ds b Q E) : ds.length = 3 := by
  obtain ⟨i, L, _, rfl, _⟩ := h
  rfl
theorem meets_62 {G : Gm} (h59 : G.sp 59 = sp_59) (h61 : G.sp 61 = sp_61) (r : G.fr 62 = false) : ∀ ds b Q E, sp_62 ds b Q E → wB G B_62 (kOf (G.fr 62) Q E) (ent N_62.length ds) b := by
  rintro ds b Q E ⟨n, L, sh, rfl, o, hn, hw, hb, hQ⟩
  unfold B_62 N_62
  trivial
  rw [h59, h61]
  have nl := o.nl
  have hl := o.len
  refine ⟨sh, _, rfl, by omega, hn, ?_⟩
  trivial
  refine ⟨n, L, sh, rfl, o, ?_⟩
  trivial
  refine ⟨by omega, by simp [rngD]; omega, wmap_range (fun _ => .tup [.int 0, .int 1]) (fun k hk R hR => ?_) ?_⟩
  · trivial
    exact hR
  have e : ptD (takW n L sh) = .lst ((List.range n).map fun _ => D.tup [.int 0, .int 1]) := by
    unfold ptD takW
    rw [List.map_map]
    congr 1
    apply List.map_congr_left
    intro j hj
    simp only [Function.comp_def]
    rw [hw j (by simpa using hj)]
    rfl
  rw [← e]
  refine eq_same (pl_pt _) (cmp_pt _ 18) ?_
  trivial
  have h' : (dot sh (LP.bq L)).num < 0 := num_neg.mpr hb
  rw [decide_eq_true h']
  exact .inl hQ
def sp_63 : FSp := sp_27
theorem len_63 (ds b Q E) (h : sp_63 ds b Q E) : ds.length = 2 := len_27 ds b Q E h
theorem meets_63 {G : Gm} (h26 : G.sp 26 = sp_26) (r : G.fr 63 = false) : ∀ ds b Q E, sp_63 ds b Q E → wB G B_63 (kOf (G.fr 63) Q E) (ent N_63.length ds) b := by
  rintro ds b Q E ⟨w, ws, pt, rfl, hw, hl, hl2, ⟨o1, o2, o3⟩, hQ⟩
  unfold B_63 N_63 ptD
  trivial
  rw [show D.tup [.int 0, .int 1] = fr 0 from fr_int 0]
  refine ⟨by omega, wfor_range (fun k δ b' => ∃ s, δ = [.vl w, .vl (.lst (pt.map fr)), .vl (fr (dot (qs (ws.take k)) (pt.take k))), s] ∧ b' = b) ⟨_, rfl, rfl⟩ ?_ ?_⟩
  · rintro k hk δ b' ⟨s, rfl, rfl⟩ R hR
    trivial
    refine ix_l 0 hk (ix_ws hw (by omega) ?_)
    rw [h26, fr_int]
    have a1 := o2 _ (LP.getD_mem (d := 0) (by omega : k < ws.length))
    have a2 := o3 _ (LP.getD_mem (d := 0) hk)
    have z1 : Sz 1000 ((ws.getD k 0 : Int) : Rat) := Sz.int a1 (by decide)
    refine ⟨_, _, _, rfl, o1 k, a2.mono (by decide), z1.mono (by decide), ?_⟩
    have e := dot_take k ws pt (by omega) hk
    rw [Rat.mul_comm, ← e]
    exact hR _ _ ⟨_, rfl, rfl⟩
  · rintro δ b' ⟨s, rfl, rfl⟩
    trivial
    rw [dot_take_end (by omega)]
    exact .inl hQ
def sp_64 : FSp := fun ds b Q E => ∃ (n : Nat) (L : List Lim) (pt : List Rat), ds = [.lst (L.map limL), ptD pt] ∧ LP.Wf n L ∧ pt.length = n ∧ n ≤ 1000 ∧ LOk L pt ∧ ∀ t : Bool, (t = true ↔ LP.Keeps L pt) → Q (.bl t) b
theorem len_64 (ds b Q E) (h : sp_64 ds b Q E) : ds.length = 2 := by
  obtain ⟨i, L, _, rfl, _⟩ := h
  rfl
theorem meets_64 {G : Gm} (h29 : G.sp 29 = sp_29) (h63 : G.sp 63 = sp_63) (r : G.fr 64 = false) : ∀ ds b Q E, sp_64 ds b Q E → wB G B_64 (kOf (G.fr 64) Q E) (ent N_64.length ds) b := by
  rintro ds b Q E ⟨n, L, pt, rfl, w, hl, hn, o, hQ⟩
  unfold B_64 N_64
  trivial
  rw [h29, h63]
  refine wfor_map limL (fun pre δ b' => (∃ s, δ = [.vl (.lst (L.map limL)), .vl (ptD pt), s]) ∧ b' = b ∧ ∀ l ∈ pre, dot (qs l.1) pt ≤ (l.2 : Rat)) ⟨⟨_, rfl⟩, rfl, by simp⟩ ?_ ?_
  · rintro pre x post e δ b' ⟨⟨s, rfl⟩, rfl, hp⟩ R hR
    have hx : x ∈ L := by rw [e]; simp
    have ox := o x hx
    trivial
    refine ⟨_, _, pt, rfl, .inr rfl, by rw [w x hx]; omega, by omega, ox.1, ?_⟩
    rw [fr_int]
    refine ⟨_, _, rfl, Sz.mono (Sz.int ox.2 (by decide)) (by decide), ox.1.sz.mono (by decide), ?_⟩
    trivial
    refine L2.ite2 (fun h => .inl (hQ false ?_)) fun h => hR _ _ ⟨⟨_, rfl⟩, rfl, fun l hl' => ?_⟩
    · constructor
      · intro z; cases z
      · intro k
        have := k x hx
        grind
    · rcases List.mem_append.mp hl' with q | q
      · exact hp l q
      · simp at q
        subst q
        grind
  · rintro δ b' ⟨⟨s, rfl⟩, rfl, hp⟩
    trivial
    exact .inl (hQ true ⟨fun _ => hp, fun _ => rfl⟩)
/-- drawn desks are bounded -/
theorem DD.dok {n : Nat} {L : List Lim} (d : DD n L) : ∃ M h : Nat, DOk n L M h ∧ h ≤ 400 ∧ L.length * (h + 50) ≤ 2800 ∧ 2 * n * 2 ^ 37 * kB (2 * n) M < 2 ^ h := by
  obtain ⟨w, M, hM, h⟩ := d
  rcases h with ⟨h1, h2, h3, rfl⟩ | ⟨rfl, h3, rfl⟩ | ⟨h1, h2, h3, rfl⟩
  · refine ⟨9, 110, ?_, by decide, by omega, ?_⟩
    · have : n = 1 ∨ n = 2 ∨ n = 3 := by omega
      rcases this with rfl | rfl | rfl <;> exact ⟨w, by decide, hM, by decide, by omega, by decide, by decide +kernel, by decide +kernel, by decide⟩
    · have : n = 1 ∨ n = 2 ∨ n = 3 := by omega
      rcases this with rfl | rfl | rfl <;> decide +kernel
  · refine ⟨2, 110, ⟨w, by decide, hM, by decide, by omega, by decide, by decide +kernel, by decide +kernel, by decide⟩, by decide, by omega, by decide +kernel⟩
  · refine ⟨999999999999, 310, ?_, by decide, by omega, ?_⟩
    · have : n = 1 ∨ n = 2 := by omega
      rcases this with rfl | rfl <;> exact ⟨w, by decide, hM, by decide, by omega, by decide, by decide +kernel, by decide +kernel, by decide +kernel⟩
    · have : n = 1 ∨ n = 2 := by omega
      rcases this with rfl | rfl <;> decide +kernel
end LK

namespace LK
open PySem
local macro_rules | `(tactic| trivial) => `(tactic| (try simp only [ent, List.length, List.map, List.replicate, List.cons_append, List.nil_append, Nat.sub_self, Nat.add_one_sub_one, Nat.reduceAdd, Nat.reduceSub]) <;> try simp only [wB, wS, wE, wEs, wO, wC, wSrc, theB, fld, bd_rows, bd_goal, bd_heads, bd_tails, e_rowlst, true_and, e_limT0, e_limT1, e_limL0, e_limL1, e_fr0, e_fr1, e_dk0, e_dk1, e_ptlen, e_ptlst, len_map, Int.toNat_natCast, e_slt, e_tcat, e_neg, e_abs, e_lent, e_lenl, e_lens, e_lenS, e_tupt, e_tupl, e_lstt, e_lstl, e_inti, e_intb, e_str, e_isInt, e_isBool, e_isTup, e_isLst, e_isStr, e_isN, e_notN, e_add, e_sub, e_mul, e_fdiv, e_mod, e_pow, e_lt, e_le, e_gt, e_ge, e_eqi, e_nei, e_cat, e_tcat, e_ixl, e_ixs, e_ixt0, e_ixt1, e_ixt2, e_max, e_min, e_test, e_seql, e_seqt, e_seqs, e_rng, e_rng2, e_zipl, e_zipt, e_ziptt, e_sll, e_slt, e_sls, e_nm, e_pr, gt, st, ent, List.map, List.replicate, List.length, List.cons_append, List.nil_append, kOf, Nat.sub_self, Nat.add_one_sub_one, Nat.reduceAdd, Nat.reduceSub, reduceCtorEq, decide_eq_true_eq, Bool.not_eq_true', decide_eq_false_iff_not, if_true, if_false, Bool.false_eq_true, ite_true, ite_false])
open LP (dot qs kB zs)
theorem Clash.tk {n : Nat} {L : List Lim} {h m : Nat} {sh : List Rat} (c : Clash n L h sh) (w : LP.Wf n L) (nl : n ≤ 1000) (ll : L.length ≤ 1000) (hi : ∀ l ∈ L, (∀ a ∈ l.1, a.natAbs < 2 ^ m) ∧ l.2.natAbs < 2 ^ m) (hm : L.length * (h + m + 1) + 1 ≤ 2900) (h2 : h ≤ 2900) (m2 : m ≤ 1000) (m1 : 0 < m) : TkOk n L sh :=
  TkOk.of w nl ll c.len (fun p hp => Sz.fz (c.sz p hp)) hi hm h2 m2 m1
theorem eq_str {s t : Str} {Q : D → Prop} (h1 : PyData.strOk s = true) (h2 : PyData.strOk t = true) (q : Q (.bl (decide (s = t)))) : w2 .eq (.str s) (.str t) Q :=
  q_eq rfl rfl h1 h2 fun b hb => by
    have : b = decide (s = t) := by
      rw [Bool.eq_iff_iff, hb, decide_eq_true_eq]
      exact ⟨fun e => by cases e; rfl, fun e => by rw [e]⟩
    rw [this]; exact q
theorem DD.ptok {n : Nat} {L : List Lim} (d : DD n L) {h : Nat} (hh : h ≤ 1790) {pt : List Rat} (p : Pt n L h pt) : LOk L pt := d.lok p.len hh p.sz
end LK

namespace LK
open PySem
local macro_rules | `(tactic| trivial) => `(tactic| (try simp only [ent, List.length, List.map, List.replicate, List.cons_append, List.nil_append, Nat.sub_self, Nat.add_one_sub_one, Nat.reduceAdd, Nat.reduceSub]) <;> try simp only [wB, wS, wE, wEs, wO, wC, wSrc, theB, fld, bd_rows, bd_goal, bd_heads, bd_tails, e_rowlst, true_and, e_limT0, e_limT1, e_limL0, e_limL1, e_fr0, e_fr1, e_dk0, e_dk1, e_ptlen, e_ptlst, len_map, Int.toNat_natCast, e_slt, e_tcat, e_neg, e_abs, e_lent, e_lenl, e_lens, e_lenS, e_tupt, e_tupl, e_lstt, e_lstl, e_inti, e_intb, e_str, e_isInt, e_isBool, e_isTup, e_isLst, e_isStr, e_isN, e_notN, e_add, e_sub, e_mul, e_fdiv, e_mod, e_pow, e_lt, e_le, e_gt, e_ge, e_eqi, e_nei, e_cat, e_tcat, e_ixl, e_ixs, e_ixt0, e_ixt1, e_ixt2, e_max, e_min, e_test, e_seql, e_seqt, e_seqs, e_rng, e_rng2, e_zipl, e_zipt, e_ziptt, e_sll, e_slt, e_sls, e_nm, e_pr, gt, st, ent, List.map, List.replicate, List.length, List.cons_append, List.nil_append, kOf, Nat.sub_self, Nat.add_one_sub_one, Nat.reduceAdd, Nat.reduceSub, reduceCtorEq, decide_eq_true_eq, Bool.not_eq_true', decide_eq_false_iff_not, if_true, if_false, Bool.false_eq_true, ite_true, ite_false])
open LP (dot qs at' solved putIn zs firstB helpB rowI ratio Feas Top Good Lea cof labOf sysOf kB zHelp zGoal diff bas prices rvec aim manyI)
/-! ### best -/
def sp_67 : FSp := fun ds b Q E => ∃ (n : Nat) (L : List Lim) (d : D), ds = [deskD n L, d] ∧ clD d = true ∧ (∀ g : List Int, d = .lst (g.map .int) → g.length = n → Q d b) ∧ ((¬ ∃ g : List Int, d = .lst (g.map .int) ∧ g.length = n) → E 3)
theorem len_67 (ds b Q E) (h : sp_67 ds b Q E) : ds.length = 2 := by
  obtain ⟨i, L, _, rfl, _⟩ := h
  rfl
theorem meets_67 {G : Gm} (h21 : G.sp 21 = sp_21) (r : G.fr 67 = false) : ∀ ds b Q E, sp_67 ds b Q E → wB G B_67 (kOf (G.fr 67) Q E) (ent N_67.length ds) b := by
  rintro ds b Q E ⟨n, L, d, rfl, hc, hQ, hE⟩
  unfold B_67 N_67
  trivial
  rw [h21]
  refine ⟨n, d, rfl, hc, ?_⟩
  trivial
  refine L2.ite2 (fun h => hE ?_) fun h => ?_
  · rintro ⟨g, rfl, hg⟩
    have := isRow_of g
    rw [hg] at this
    rw [this] at h
    cases h
  · obtain ⟨g, rfl, hg⟩ := isRow_ints (by simpa using h)
    exact .inl (hQ g rfl (by omega))
theorem sz_fz {h : Nat} {r : Rat} (f : LP.Fz h r) (hh : h ≤ 900) : Sz 1000 r := (Sz.fz f).mono (by omega)
def sp_68 : FSp := fun ds b Q E => ∃ (a : Addr) (n : Nat) (L : List Lim) (M h m : Nat) (B : LP.Bo) (ro : Bool) (g : List Int), ds = [deskD n L, .brd a, .lst (g.map .int)] ∧ b = some (a, bdOf B ro) ∧ 1 ≤ n ∧ DOk n L M h ∧ Ph2 n L B ∧ g.length = n ∧ (∀ i ∈ g, i.natAbs ≤ m) ∧ 2 * n * m * kB (2 * n) M < 2 ^ h ∧ m < 2 ^ 1000 ∧
  Q (.brd a) (some (a, bdOf { B with goal := aim B n g (2 * n) } ro))
theorem len_68 (ds b Q E) (h : sp_68 ds b Q E) : ds.length = 3 := by
  obtain ⟨i, L, _, _, _, _, _, _, _, rfl, _⟩ := h
  rfl
theorem unit_fr (t i : Nat) : ((List.range t).map fun _ : Nat => D.tup [.int 0, .int 1]).set i (fr 1) = ((zs t).set i 1).map fr := by
  rw [← map_set_fr]
  congr 1
  unfold zs
  rw [List.map_replicate, List.map_const', List.length_range]
  rfl
theorem meets_68 {G : Gm} (h10 : G.sp 10 = sp_10) (h11 : G.sp 11 = sp_11) (h13 : G.sp 13 = sp_13) (g3 : G.gc 3 = .tup [.int 0, .int 1]) (g4 : G.gc 4 = .tup [.int 1, .int 1]) (r : G.fr 68 = false) : ∀ ds b Q E, sp_68 ds b Q E → wB G B_68 (kOf (G.fr 68) Q E) (ent N_68.length ds) b := by
  rintro ds b Q E ⟨a, n, L, M, h, m, B, ro, g, rfl, rfl, n0, d, ⟨⟨z, gd⟩, fs, hl, tl⟩, hg, hm, hc, m9, hQ⟩
  unfold B_68 N_68
  trivial
  rw [h10, h11, h13, g3, g4, show D.tup [.int 1, .int 1] = fr (1 : Rat) from fr_int 1]
  have n1 := d.n1
  have ll := d.ll
  have h9 := d.h9
  have I := LP.int1 d.m1 d.w d.lb
  have et : B.tails.length = (firstB n L).tails.length := by rw [tl]; simp [firstB, amt_len]
  have k1 : kB B.tails.length M < 2 ^ h := by rw [tl]; exact d.k1
  have rsz := LP.rows_sz I gd et k1
  have asz : ∀ k, k ≤ 2 * n → ∀ c ∈ aim B n g k, Sz 1000 c := fun k hk c hc' => sz_fz (LP.aim_sz I gd et (amt_lab n L) hm k1 (by rw [tl, ← Nat.mul_assoc]; exact hc) hk c hc') h9
  have t1 : ((B.tails.length : Nat) : Int) + 1 = ((2 * n + 1 : Nat) : Int) := by omega
  rw [t1]
  trivial
  refine ⟨by omega, by simp [rngD]; omega, wmap_range (fun _ => .tup [.int 0, .int 1]) (fun k hk R hR => ?_) ?_⟩
  · trivial
    exact hR
  refine ⟨MulOk.l (by decide), by omega, ?_⟩
  rw [show (2 * (n : Int)).toNat = 2 * n by omega]
  refine wfor_range (fun k δ b' => ∃ s5 s6 s7 : Sl, δ = [.vl (deskD n L), .vl (.brd a), .vl (.lst (g.map .int)), .vl (.int ((2 * n + 1 : Nat) : Int)), .vl (rowD (aim B n g k)), s5, s6, s7, .no, .no, .no] ∧ b' = some (a, bdOf B ro)) ⟨.no, .no, .no, ?_, rfl⟩ ?_ ?_
  · have e : rowD (aim B n g 0) = .lst ((List.range (2 * n + 1)).map fun _ => .tup [.int 0, .int 1]) := by
      unfold rowD LP.aim LP.zs
      rw [List.map_replicate, List.map_const', List.length_range, tl]
      rfl
    rw [e]
  · rintro k hk δ b' ⟨s5, s6, s7, rfl, rfl⟩ R hR
    have ha := LP.amt_mem (n := n) (l := (k : Int) + 1) |>.mpr ⟨by omega, by omega⟩
    have hlab := amt_lab n L _ ha
    trivial
    -- which goal number
    have hmod : (k : Int).fmod n = ((if k < n then k else k - n : Nat) : Int) := by
      rw [fmod_pos (by omega)]
      by_cases q : k < n
      · rw [if_pos q]
        exact Int.emod_eq_of_lt (by omega) (by omega)
      · rw [if_neg q]
        have : (k : Int) = ((k - n : Nat) : Int) + n := by omega
        rw [this, Int.add_emod_right]
        exact Int.emod_eq_of_lt (by omega) (by omega)
    refine ⟨by omega, ix_li 0 (by rw [hg]; split <;> omega : (if k < n then k else k - n) < g.length) hmod ?_⟩
    rw [fr_int]
    -- the rest of the turn, whatever the number
    have gz : ∀ j, (g.getD j 0).natAbs ≤ m := fun j => by
      by_cases hj : j < g.length
      · exact hm _ (LP.getD_mem hj)
      · simp [List.getD, hj]
    have mz : Sz 1000 ((manyI n g k : Int) : Rat) := Sz.int (by
      unfold LP.manyI
      split
      · exact Nat.lt_of_le_of_lt (gz _) m9
      · rw [Int.natAbs_neg]; exact Nat.lt_of_le_of_lt (gz _) m9) (by decide)
    have fin : ∀ row : List Rat, row = rvec B ((k : Int) + 1) → ∀ (step : D → Ob → (Option D → Ob → Prop) → Prop) (Z : List D → Ob → Prop),
        (∀ x y : Rat, x ∈ aim B n g k → y ∈ row → ∀ R : Option D → Ob → Prop, R (some (fr (x + (manyI n g k : Rat) * y))) (some (a, bdOf B ro)) → step (.tup [fr x, fr y]) (some (a, bdOf B ro)) R) →
        Z ((aim B n g (k + 1)).map fr) (some (a, bdOf B ro)) → wzip (rowD (aim B n g k)) (rowD row) fun xs => xs.length ≤ 1000000 ∧ wmap step xs [] (some (a, bdOf B ro)) Z := fun row hrow step Z hst hZ => by
      show (zipD ((aim B n g k).map fr) (row.map fr)).length ≤ 1000000 ∧ wmap step (zipD ((aim B n g k).map fr) (row.map fr)) [] (some (a, bdOf B ro)) Z
      rw [zipD_map]
      have lr : row.length = 2 * n + 1 := by rw [hrow, LP.rvec_len gd, tl]
      refine ⟨by rw [List.length_map, List.length_zip]; omega, wmap_e (fun q : Rat × Rat => D.tup [fr q.1, fr q.2]) (fun q : Rat × Rat => fr (q.1 + (manyI n g k : Rat) * q.2)) (fun q hq R hR => hst _ _ (List.of_mem_zip hq).1 (List.of_mem_zip hq).2 R hR) ?_⟩
      have e : (aim B n g (k + 1)).map fr = ((aim B n g k).zip row).map fun q : Rat × Rat => fr (q.1 + (manyI n g k : Rat) * q.2) := by
        simp only [LP.aim]
        rw [hrow, List.zip, List.map_zipWith, List.map_zipWith]
      rw [← e]
      exact hZ
    have oneSz : Sz 1000 (1 : Rat) := Sz.mono (n := 2) (Sz.int (i := 1) (by decide) (by decide)) (by decide)
    refine L2.ite2 (fun hkn => ⟨_, rfl, ?_⟩) fun hkn => ?_
    · have e : -((g.getD (if k < n then k else k - n) 0 : Int) : Rat) = ((manyI n g k : Int) : Rat) := by
        unfold LP.manyI
        rw [if_neg (by omega), if_neg (by omega), Rat.intCast_neg]
      rw [e]
      trivial
      refine ⟨by omega, by simp [rngD]; omega, wmap_range (fun _ => .tup [.int 0, .int 1]) (fun k hk R hR => ?_) ?_⟩
      · trivial
        exact hR
      trivial
      refine ⟨_, rfl, ?_⟩
      trivial
      refine L2.ite2 (fun hm2 => ?_) fun hm2 => ?_
      · have hi := List.idxOf_lt_length_iff.mpr hm2
        have hri : B.heads.idxOf ((k : Int) + 1) < B.rows.length := by rw [gd.rl]; exact hi
        refine ⟨_, rfl, hm2, ?_⟩
        refine at_i [] hri rfl (fin _ (by unfold LP.rvec; rw [if_pos hm2]) _ _ (fun x y hx hy R hR => ?_) (hR _ _ ⟨.vl (.int k), .vl (fr (manyI n g k : Rat)), .vl (rowD (B.rows.getD (B.heads.idxOf ((k : Int) + 1)) [])), rfl, rfl⟩))
        trivial
        have hy' := sz_fz (rsz _ (LP.getD_mem hri) y hy) h9
        exact ⟨_, _, rfl, mz.mono (by decide), hy'.mono (by decide), _, _, rfl, (asz k (by omega) x hx).mono (by decide), (sz_mul mz hy').mono (by decide), hR⟩
      · have ht : (k : Int) + 1 ∈ B.tails := by
          rcases (gd.mem _).mp hlab with q | q
          · exact absurd q hm2
          · exact q
        have hi := List.idxOf_lt_length_iff.mpr ht
        refine ⟨_, rfl, ht, B.tails.idxOf ((k : Int) + 1) + 1, ixN_nn (by simp only [List.length_map, List.length_range]; omega) (by omega), ?_⟩
        rw [unit_fr]
        refine fin ((zs (2 * n + 1)).set (B.tails.idxOf ((k : Int) + 1) + 1) 1) (by unfold LP.rvec; rw [if_neg hm2, tl]) _ _ (fun x y hx hy R hR => ?_) (hR _ _ ⟨.vl (.int k), .vl (fr (manyI n g k : Rat)), .vl (rowD ((zs (2 * n + 1)).set (B.tails.idxOf ((k : Int) + 1) + 1) 1)), rfl, rfl⟩)
        trivial
        have hy' : Sz 1000 y := by
          rcases List.mem_or_eq_of_mem_set hy with q | q
          · have := (List.mem_replicate.mp q).2
            rw [this]
            exact sz_zero 1000 (by decide)
          · rw [q]; exact oneSz
        exact ⟨_, _, rfl, mz.mono (by decide), hy'.mono (by decide), _, _, rfl, (asz k (by omega) x hx).mono (by decide), (sz_mul mz hy').mono (by decide), hR⟩
    · have e : ((g.getD (if k < n then k else k - n) 0 : Int) : Rat) = ((manyI n g k : Int) : Rat) := by
        unfold LP.manyI
        rw [if_pos (by omega), if_pos (by omega)]
      rw [e]
      trivial
      refine ⟨by omega, by simp [rngD]; omega, wmap_range (fun _ => .tup [.int 0, .int 1]) (fun k hk R hR => ?_) ?_⟩
      · trivial
        exact hR
      trivial
      refine ⟨_, rfl, ?_⟩
      trivial
      refine L2.ite2 (fun hm2 => ?_) fun hm2 => ?_
      · have hi := List.idxOf_lt_length_iff.mpr hm2
        have hri : B.heads.idxOf ((k : Int) + 1) < B.rows.length := by rw [gd.rl]; exact hi
        refine ⟨_, rfl, hm2, ?_⟩
        refine at_i [] hri rfl (fin _ (by unfold LP.rvec; rw [if_pos hm2]) _ _ (fun x y hx hy R hR => ?_) (hR _ _ ⟨.vl (.int k), .vl (fr (manyI n g k : Rat)), .vl (rowD (B.rows.getD (B.heads.idxOf ((k : Int) + 1)) [])), rfl, rfl⟩))
        trivial
        have hy' := sz_fz (rsz _ (LP.getD_mem hri) y hy) h9
        exact ⟨_, _, rfl, mz.mono (by decide), hy'.mono (by decide), _, _, rfl, (asz k (by omega) x hx).mono (by decide), (sz_mul mz hy').mono (by decide), hR⟩
      · have ht : (k : Int) + 1 ∈ B.tails := by
          rcases (gd.mem _).mp hlab with q | q
          · exact absurd q hm2
          · exact q
        have hi := List.idxOf_lt_length_iff.mpr ht
        refine ⟨_, rfl, ht, B.tails.idxOf ((k : Int) + 1) + 1, ixN_nn (by simp only [List.length_map, List.length_range]; omega) (by omega), ?_⟩
        rw [unit_fr]
        refine fin ((zs (2 * n + 1)).set (B.tails.idxOf ((k : Int) + 1) + 1) 1) (by unfold LP.rvec; rw [if_neg hm2, tl]) _ _ (fun x y hx hy R hR => ?_) (hR _ _ ⟨.vl (.int k), .vl (fr (manyI n g k : Rat)), .vl (rowD ((zs (2 * n + 1)).set (B.tails.idxOf ((k : Int) + 1) + 1) 1)), rfl, rfl⟩)
        trivial
        have hy' : Sz 1000 y := by
          rcases List.mem_or_eq_of_mem_set hy with q | q
          · have := (List.mem_replicate.mp q).2
            rw [this]
            exact sz_zero 1000 (by decide)
          · rw [q]; exact oneSz
        exact ⟨_, _, rfl, mz.mono (by decide), hy'.mono (by decide), _, _, rfl, (asz k (by omega) x hx).mono (by decide), (sz_mul mz hy').mono (by decide), hR⟩
  · rintro δ b' ⟨s5, s6, s7, rfl, rfl⟩
    trivial
    exact .inl hQ
end LK

namespace LK
open PySem
local macro_rules | `(tactic| trivial) => `(tactic| (try simp only [ent, List.length, List.map, List.replicate, List.cons_append, List.nil_append, Nat.sub_self, Nat.add_one_sub_one, Nat.reduceAdd, Nat.reduceSub]) <;> try simp only [wB, wS, wE, wEs, wO, wC, wSrc, theB, fld, bd_rows, bd_goal, bd_heads, bd_tails, e_rowlst, true_and, e_limT0, e_limT1, e_limL0, e_limL1, e_fr0, e_fr1, e_dk0, e_dk1, e_ptlen, e_ptlst, len_map, Int.toNat_natCast, e_slt, e_tcat, e_neg, e_abs, e_lent, e_lenl, e_lens, e_lenS, e_tupt, e_tupl, e_lstt, e_lstl, e_inti, e_intb, e_str, e_isInt, e_isBool, e_isTup, e_isLst, e_isStr, e_isN, e_notN, e_add, e_sub, e_mul, e_fdiv, e_mod, e_pow, e_lt, e_le, e_gt, e_ge, e_eqi, e_nei, e_cat, e_tcat, e_ixl, e_ixs, e_ixt0, e_ixt1, e_ixt2, e_max, e_min, e_test, e_seql, e_seqt, e_seqs, e_rng, e_rng2, e_zipl, e_zipt, e_ziptt, e_sll, e_slt, e_sls, e_nm, e_pr, gt, st, ent, List.map, List.replicate, List.length, List.cons_append, List.nil_append, kOf, Nat.sub_self, Nat.add_one_sub_one, Nat.reduceAdd, Nat.reduceSub, reduceCtorEq, decide_eq_true_eq, Bool.not_eq_true', decide_eq_false_iff_not, if_true, if_false, Bool.false_eq_true, ite_true, ite_false])
open LP (dot qs at' solved putIn zs firstB helpB rowI ratio Feas Top Good Lea cof labOf sysOf kB zHelp zGoal diff bas prices rvec aim manyI dirB NoEnd)
def growB (B : LP.Bo) (p : Nat) (l : Int) : Rat := if l = B.tails.getD p 0 then 1 else if l ∈ B.heads then (B.rows.getD (B.heads.idxOf l) []).getD (p + 1) 0 else 0
def sp_69 : FSp := fun ds b Q E => ∃ (a : Addr) (p : Nat) (l : Int) (B : LP.Bo) (ro : Bool), ds = [.brd a, .int p, .int l] ∧ b = some (a, bdOf B ro) ∧ BOk B ∧ p < B.tails.length ∧ Q (fr (growB B p l)) b
theorem len_69 (ds b Q E) (h : sp_69 ds b Q E) : ds.length = 3 := by
  obtain ⟨i, L, _, B, ro, rfl, _⟩ := h
  rfl
theorem meets_69 {G : Gm} (g3 : G.gc 3 = .tup [.int 0, .int 1]) (g4 : G.gc 4 = .tup [.int 1, .int 1]) (r : G.fr 69 = false) : ∀ ds b Q E, sp_69 ds b Q E → wB G B_69 (kOf (G.fr 69) Q E) (ent N_69.length ds) b := by
  rintro ds b Q E ⟨a, p, l, B, ro, rfl, rfl, ok, hp, hQ⟩
  unfold B_69 N_69
  trivial
  rw [g3, g4, show D.tup [.int 0, .int 1] = fr (0 : Rat) from fr_int 0, show D.tup [.int 1, .int 1] = fr (1 : Rat) from fr_int 1]
  refine at_i 0 hp rfl ?_
  trivial
  unfold growB at hQ
  refine L2.ite2 (fun h => .inl ?_) fun h => ?_
  · rw [if_pos h] at hQ
    exact hQ
  rw [if_neg h] at hQ
  refine ⟨_, rfl, ?_⟩
  trivial
  refine L2.ite2 (fun hm => ?_) fun hm => .inl ?_
  · have hi := List.idxOf_lt_length_iff.mpr hm
    have hi2 : B.heads.idxOf l < B.rows.length := by rw [ok.rl]; exact hi
    refine ⟨_, rfl, hm, ?_⟩
    refine at_i [] hi2 rfl (ix_row (by rw [(ok.row hi).1]; omega : p + 1 < _) (by omega) (.inl ?_))
    rw [if_pos hm] at hQ
    exact hQ
  · rw [if_neg hm] at hQ
    exact hQ
theorem grow_dir {lab S z B} (G : Good lab S z B) {p : Nat} (hp : p < B.tails.length) {l : Int} (h : l ∈ lab) : growB B p l = dirB B p l := by
  unfold growB
  by_cases ht : l ∈ B.tails
  · rw [LP.dir_t G hp ht]
    split
    · rfl
    · rw [if_neg fun q => G.nb q ht]
  · have hh : l ∈ B.heads := by
      rcases (G.mem l).mp h with q | q
      · exact q
      · exact absurd q ht
    have hne : l ≠ B.tails.getD p 0 := fun e => ht (by rw [e]; exact LP.getD_mem hp)
    rw [if_neg hne, if_pos hh]
    have := LP.dir_h G hp (List.idxOf_lt_length_iff.mpr hh)
    rw [LP.getD_idxOf hh] at this
    exact this.symm
def sp_70 : FSp := fun ds b Q E => ∃ (a : Addr) (n : Nat) (L : List Lim) (M h p : Nat) (B : LP.Bo) (ro : Bool) (z : LP.ObjZ), ds = [deskD n L, .brd a, .int p] ∧ b = some (a, bdOf B ro) ∧ DOk n L M h ∧ BOk B ∧ Good (labOf (firstB n L)) (sysOf (firstB n L)) z B ∧ B.tails.length = 2 * n ∧ p < B.tails.length ∧ Q (ptD (diff n (dirB B p))) b
theorem len_70 (ds b Q E) (h : sp_70 ds b Q E) : ds.length = 3 := by
  obtain ⟨i, L, B, ro, _, _, _, _, _, rfl, _⟩ := h
  rfl
theorem dir_ofD {n : Nat} {L : List Lim} {M h p : Nat} {B : LP.Bo} {z : LP.ObjZ} (d : DOk n L M h) (G : Good (labOf (firstB n L)) (sysOf (firstB n L)) z B) (tl : B.tails.length = 2 * n) (hp : p < B.tails.length) : ∃ D : Int, D ≠ 0 ∧ D.natAbs ≤ kB (2 * n) M ∧ ∀ l ∈ labOf (firstB n L), LP.OfD D (kB (2 * n) M) (dirB B p l) := by
  have := LP.dir_col (LP.int1 d.m1 d.w d.lb) G (by rw [tl]; simp [firstB, amt_len]) hp
  rwa [tl] at this
theorem meets_70 {G : Gm} (h12 : G.sp 12 = sp_12) (h69 : G.sp 69 = sp_69) (r : G.fr 70 = false) : ∀ ds b Q E, sp_70 ds b Q E → wB G B_70 (kOf (G.fr 70) Q E) (ent N_70.length ds) b := by
  rintro ds b Q E ⟨a, n, L, M, h, p, B, ro, z, rfl, rfl, d, ok, gd, tl, hp, hQ⟩
  unfold B_70 N_70
  trivial
  rw [h12, h69]
  have n1 := d.n1
  obtain ⟨D, D0, D1, D2⟩ := dir_ofD d gd tl hp
  have sz : ∀ l ∈ LP.amt n, growB B p l = dirB B p l ∧ Sz 1000 (dirB B p l) := fun l hl => by
    have hm := amt_lab n L l hl
    exact ⟨grow_dir gd hp hm, fz1000 ((D2 l hm).fz D0 (Nat.lt_of_le_of_lt D1 d.k1) d.k1) d.h9⟩
  refine ⟨by omega, by simp [rngD]; omega, wmap_range (fun k => fr (dirB B p ((k : Int) + 1) - dirB B p ((n : Int) + (k : Int) + 1))) (fun k hk R hR => ?_) (.inl ?_)⟩
  · trivial
    have s1 := sz ((k : Int) + 1) (LP.amt_mem.mpr ⟨by omega, by omega⟩)
    have s2 := sz ((n : Int) + (k : Int) + 1) (LP.amt_mem.mpr ⟨by omega, by omega⟩)
    refine ⟨a, p, _, B, ro, rfl, rfl, ok, hp, a, p, _, B, ro, rfl, rfl, ok, hp, ?_⟩
    rw [s1.1, s2.1]
    exact ⟨_, _, rfl, s1.2.mono (by decide), s2.2.mono (by decide), hR⟩
  · have e : ptD (diff n (dirB B p)) = .lst ((List.range n).map fun k : Nat => fr (dirB B p ((k : Int) + 1) - dirB B p ((n : Int) + (k : Int) + 1))) := by
      unfold ptD diff
      rw [List.map_map]
      rfl
    rw [← e]
    exact hQ
structure Prices (n : Nat) (L : List Lim) (g : List Int) (h : Nat) (pt sh : List Rat) : Prop where
  len : sh.length = L.length
  nn : ∀ p ∈ sh, 0 ≤ p
  ws : ∀ j, j < n → dot sh (LP.colq L j) = ((g.getD j 0 : Int) : Rat)
  bd : dot sh (LP.bq L) = dot (qs g) pt
  sz : ∀ p ∈ sh, LP.Fz h p
structure Way (n : Nat) (L : List Lim) (g : List Int) (h : Nat) (way : List Rat) : Prop where
  len : way.length = n
  keeps : ∀ l ∈ L, dot (qs l.1) way ≤ 0
  up : 0 < dot (qs g) way
  sz : LP.PtSz h way
/-- a goal that is bounded -/
structure GOk (n : Nat) (M h m : Nat) (g : List Int) : Prop where
  n1 : 1 ≤ n
  len : g.length = n
  gm : ∀ i ∈ g, i.natAbs ≤ m
  gc : 2 * n * m * kB (2 * n) M < 2 ^ h
  m9 : m < 2 ^ 900
def BestQ (n : Nat) (L : List Lim) (g : List Int) (h : Nat) (Q : D → Ob → Prop) : Prop :=
  (∀ pt sh, Pt n L (h + 1) pt → Prices n L g h pt sh → Q (.tup [.str "best", ptD pt, ptD sh]) none) ∧ (∀ pt way, Pt n L (h + 1) pt → Way n L g (h + 1) way → Q (.tup [.str "endless", ptD pt, ptD way]) none) ∧ ∀ sh, Clash n L h sh → Q (.tup [.str "clash", ptD sh]) none
def sp_71 : FSp := fun ds b Q E => ∃ (n : Nat) (L : List Lim) (d : D), ds = [deskD n L, d] ∧ clD d = true ∧ b = none ∧ (∀ g : List Int, d = .lst (g.map .int) → g.length = n → ∃ M h m, DOk n L M h ∧ GOk n M h m g ∧ BestQ n L g h Q) ∧ ((¬ ∃ g : List Int, d = .lst (g.map .int) ∧ g.length = n) → E 3)
theorem len_71 (ds b Q E) (h : sp_71 ds b Q E) : ds.length = 2 := by
  obtain ⟨i, L, B, rfl, _⟩ := h
  rfl
theorem meets_71 {G : Gm} (h48 : G.sp 48 = sp_48) (h54 : G.sp 54 = sp_54) (h55 : G.sp 55 = sp_55) (h57 : G.sp 57 = sp_57) (h67 : G.sp 67 = sp_67) (h68 : G.sp 68 = sp_68) (h70 : G.sp 70 = sp_70) (r : G.fr 71 = false) : ∀ ds b Q E, sp_71 ds b Q E → wB G B_71 (kOf (G.fr 71) Q E) (ent N_71.length ds) b := by
  rintro ds b Q E ⟨n, L, d, rfl, hc, rfl, hQ, hE⟩
  unfold B_71 N_71
  trivial
  rw [h48, h54, h55, h57, h67, h68, h70]
  refine ⟨n, L, d, rfl, hc, fun g e hg => ?_, hE⟩
  subst e
  obtain ⟨M, h, m, dk, gk, q1, q2, q3⟩ := hQ g rfl hg
  refine ⟨n, L, M, h, rfl, rfl, dk, fun a B ro p2 => ?_, fun sh c => ?_⟩
  · trivial
    refine ⟨a, n, L, M, h, m, B, ro, g, rfl, rfl, gk.n1, dk, p2, gk.len, gk.gm, gk.gc, Nat.lt_of_lt_of_le gk.m9 (Nat.pow_le_pow_right (by decide) (by decide)), ?_⟩
    trivial
    have tl := p2.tl
    have hl := p2.hl
    obtain ⟨⟨z, gd⟩, fs, _, _⟩ := p2
    have gd2 := LP.aim_good gd (amt_lab n L) gk.len
    have ao := allok_g dk gk.len gk.gm gk.gc
    refine ⟨a, _, ro, _, _, _, rfl, rfl, gd2, fs, ?_, fun B' f ro' g' f' hl' tl' cl => ?_⟩
    · show AllOk _ _ _ B.heads.length B.tails.length
      rw [hl, tl]
      exact ao
    have tl2 : B'.tails.length = 2 * n := tl'.trans tl
    have hl2 : B'.heads.length = L.length := hl'.trans hl
    have ok' := ao B' g' hl2 tl2
    have p2' : Ph2 n L B' := ⟨⟨_, g'⟩, f', hl2, tl2⟩
    trivial
    refine ⟨a, n, L, M, h, B', ro', rfl, rfl, dk, p2', ?_⟩
    trivial
    have pt := ph2_pt dk p2'
    have ll := dk.ll
    rcases cl with ⟨rfl, ht⟩ | ⟨p, rfl, hp⟩
    · rw [if_neg (by decide)]
      refine ⟨a, n, L, B', ro', rfl, rfl, ok', by omega, .inr (q1 _ _ pt ?_)⟩
      have bc := LP.best_cert dk.w gk.len g' ht
      have I := LP.int1 dk.m1 dk.w dk.lb
      have et : B'.tails.length = (firstB n L).tails.length := by rw [tl2]; simp [firstB, amt_len]
      have k1 : kB B'.tails.length M < 2 ^ h := by rw [tl2]; exact dk.k1
      have kc : 2 * n * m * kB B'.tails.length M < 2 ^ h := by rw [tl2]; exact gk.gc
      exact ⟨prices_len n L B', bc.1, bc.2.1, bc.2.2, LP.prices_fz (LP.goal_sz I g' et (LP.zGoal_zb gk.len (amt_lab n L) gk.gm) k1 kc) g'.gl⟩
    · rw [if_pos (by omega)]
      refine ⟨a, n, L, M, h, p, B', ro', _, rfl, rfl, dk, ok', g', tl2, hp.1, .inr (q2 _ _ pt ?_)⟩
      obtain ⟨D, D0, D1, D2⟩ := dir_ofD dk g' tl2 hp.1
      have k1 := dk.k1
      exact ⟨LP.diff_len _ _, LP.way_keeps dk.w g' hp, LP.way_up g' hp, LP.PtSz.of D0 (by have := pow_dbl k1; omega) (pow_dbl k1) (LP.diff_ofD fun l hl => D2 l (amt_lab n L l hl))⟩
  · trivial
    exact .inl (q3 sh c)
end LK

namespace LK
open PySem
local macro_rules | `(tactic| trivial) => `(tactic| (try simp only [ent, List.length, List.map, List.replicate, List.cons_append, List.nil_append, Nat.sub_self, Nat.add_one_sub_one, Nat.reduceAdd, Nat.reduceSub]) <;> try simp only [wB, wS, wE, wEs, wO, wC, wSrc, theB, fld, bd_rows, bd_goal, bd_heads, bd_tails, e_rowlst, true_and, e_limT0, e_limT1, e_limL0, e_limL1, e_fr0, e_fr1, e_dk0, e_dk1, e_ptlen, e_ptlst, len_map, Int.toNat_natCast, e_slt, e_tcat, e_neg, e_abs, e_lent, e_lenl, e_lens, e_lenS, e_tupt, e_tupl, e_lstt, e_lstl, e_inti, e_intb, e_str, e_isInt, e_isBool, e_isTup, e_isLst, e_isStr, e_isN, e_notN, e_add, e_sub, e_mul, e_fdiv, e_mod, e_pow, e_lt, e_le, e_gt, e_ge, e_eqi, e_nei, e_cat, e_tcat, e_ixl, e_ixs, e_ixt0, e_ixt1, e_ixt2, e_max, e_min, e_test, e_seql, e_seqt, e_seqs, e_rng, e_rng2, e_zipl, e_zipt, e_ziptt, e_sll, e_slt, e_sls, e_nm, e_pr, gt, st, ent, List.map, List.replicate, List.length, List.cons_append, List.nil_append, kOf, Nat.sub_self, Nat.add_one_sub_one, Nat.reduceAdd, Nat.reduceSub, reduceCtorEq, decide_eq_true_eq, Bool.not_eq_true', decide_eq_false_iff_not, if_true, if_false, Bool.false_eq_true, ite_true, ite_false])
open LP (dot qs kB zs)
def sp_72 : FSp := fun ds b Q E => ∃ (n : Nat) (L : List Lim) (g : List Int) (pt sh : List Rat) (h : Nat), ds = [.lst (L.map limL), .lst (g.map .int), ptD pt, ptD sh] ∧ g.length = n ∧ pt.length = n ∧ TkOk n L sh ∧ Prices n L g h pt sh ∧ WOk g pt ∧ Q (.bl true) b
theorem len_72 (ds b Q E) (h : sp_72 ds b Q E) : ds.length = 4 := by
  obtain ⟨i, L, _, _, _, _, rfl, _⟩ := h
  rfl
theorem meets_72 {G : Gm} (h59 : G.sp 59 = sp_59) (h61 : G.sp 61 = sp_61) (h63 : G.sp 63 = sp_63) (r : G.fr 72 = false) : ∀ ds b Q E, sp_72 ds b Q E → wB G B_72 (kOf (G.fr 72) Q E) (ent N_72.length ds) b := by
  rintro ds b Q E ⟨n, L, g, pt, sh, h, rfl, hg, hp, o, pr, wo, hQ⟩
  unfold B_72 N_72
  trivial
  rw [h59, h61, h63]
  have nl := o.nl
  have hl := o.len
  refine ⟨sh, _, rfl, by omega, pr.nn, ?_⟩
  trivial
  refine ⟨n, L, sh, by rw [hg], o, ?_⟩
  trivial
  refine ⟨by rw [List.length_map]; omega, wmap_e D.int (fun i => .tup [.int i, .int 1]) (fun k hk R hR => ?_) ?_⟩
  · trivial
    exact hR
  have e : ptD (takW n L sh) = .lst (g.map fun i => D.tup [.int i, .int 1]) := by
    unfold ptD takW
    rw [List.map_map]
    congr 1
    apply List.ext_getElem
    · simp [hg]
    · intro j h1 h2
      have hj : j < n := by simpa using h1
      have := pr.ws j hj
      simp only [List.getElem_map, List.getElem_range, Function.comp_def]
      rw [this, LP.getD_eq (by omega : j < g.length), fr_int]
  rw [← e]
  refine eq_same (pl_pt _) (cmp_pt _ 18) ?_
  trivial
  refine ⟨_, g, pt, rfl, .inr rfl, by omega, by omega, wo, q_eqf ?_⟩
  rw [decide_eq_true pr.bd]
  exact .inl hQ
def sp_73 : FSp := fun ds b Q E => ∃ (n : Nat) (L : List Lim) (g : List Int) (way : List Rat) (h : Nat), ds = [.lst (L.map limL), .lst (g.map .int), ptD way] ∧ g.length = n ∧ n ≤ 1000 ∧ LP.Wf n L ∧ Way n L g h way ∧ WOk g way ∧ (∀ l ∈ L, WOk l.1 way) ∧ Q (.bl true) b
theorem len_73 (ds b Q E) (h : sp_73 ds b Q E) : ds.length = 3 := by
  obtain ⟨i, L, _, _, _, rfl, _⟩ := h
  rfl
theorem meets_73 {G : Gm} (h60 : G.sp 60 = sp_60) (h63 : G.sp 63 = sp_63) (r : G.fr 73 = false) : ∀ ds b Q E, sp_73 ds b Q E → wB G B_73 (kOf (G.fr 73) Q E) (ent N_73.length ds) b := by
  rintro ds b Q E ⟨n, L, g, way, h, rfl, hg, hn, w, wy, wo, wl, hQ⟩
  unfold B_73 N_73
  trivial
  rw [h60, h63]
  have wlen := wy.len
  refine ⟨way, _, rfl, ?_⟩
  rw [decide_eq_true (by omega)]
  trivial
  refine wfor_map limL (fun pre δ b' => (∃ s, δ = [.vl (.lst (L.map limL)), .vl (.lst (g.map .int)), .vl (ptD way), s]) ∧ b' = b) ⟨⟨_, rfl⟩, rfl⟩ ?_ ?_
  · rintro pre x post e δ b' ⟨⟨s, rfl⟩, rfl⟩ R hR
    have hx : x ∈ L := by rw [e]; simp
    trivial
    refine ⟨_, _, way, rfl, .inr rfl, by rw [w x hx]; omega, by omega, wl x hx, ?_⟩
    trivial
    refine L2.ite2 (fun hh => ?_) fun _ => hR _ _ ⟨⟨_, rfl⟩, rfl⟩
    have := num_pos.mp hh
    have := wy.keeps x hx
    grind
  · rintro δ b' ⟨⟨s, rfl⟩, rfl⟩
    trivial
    refine ⟨_, g, way, rfl, .inr rfl, by omega, by omega, wo, ?_⟩
    trivial
    rw [decide_eq_true (num_pos.mpr wy.up)]
    exact .inl hQ
/-- the law's goals -/
def sp_66 : FSp := fun ds b Q E => ∃ (s : D) (ns : List Int) (n : Nat), ds = [s, .int n] ∧ isScr s ns ∧ n ≤ 1000 ∧ ∀ g : List Int, g.length = n → (∀ i ∈ g, i.natAbs ≤ 100000000000) → Q (.lst (g.map .int)) b
theorem len_66 (ds b Q E) (h : sp_66 ds b Q E) : ds.length = 2 := by
  obtain ⟨i, L, _, rfl, _⟩ := h
  rfl
theorem meets_66 {G : Gm} (h0 : G.sp 0 = sp_0) (h1 : G.sp 1 = sp_1) (r : G.fr 66 = false) : ∀ ds b Q E, sp_66 ds b Q E → wB G B_66 (kOf (G.fr 66) Q E) (ent N_66.length ds) b := by
  rintro ds b Q E ⟨s, ns, n, rfl, hs, hn, hQ⟩
  unfold B_66 N_66
  trivial
  rw [h0, h1]
  refine ⟨by decide, cell_ok hs (by decide) fun c2 => ?_⟩
  trivial
  refine ⟨by decide, ?_⟩
  obtain ⟨d, hd, w, rfl, hw0, hw⟩ := atI_four (c := c2) (x := .int 1) (y := .int 3) (z := .int 9) (w := .int (10 ^ Int.toNat 11)) (P := fun d => ∃ w : Int, d = .int w ∧ 0 ≤ w ∧ w ≤ 100000000000) ⟨_, rfl, by decide, by decide⟩ ⟨_, rfl, by decide, by decide⟩ ⟨_, rfl, by decide, by decide⟩ ⟨_, rfl, by decide, by decide⟩
  refine ⟨_, hd, by omega, by simp [rngD]; omega, wmap_rangeP (β := Int) D.int (fun _ i => -w ≤ i ∧ i ≤ w) (fun q hq R2 hR2 => ?_) fun ys yl yp => .inl (hQ ys yl fun i hi => ?_)⟩
  · trivial
    refine cell_ok hs (by omega) fun c => ?_
    exact ⟨_, _, rfl, hw0, fun i h1 h2 => hR2 i ⟨h1, h2⟩⟩
  · obtain ⟨q, hq, e⟩ := List.mem_iff_getElem.mp hi
    have := yp q i (by rw [List.getElem?_eq_getElem hq, e])
    omega
theorem cl_ints (g : List Int) : clD (.lst (g.map .int)) = true := clDs_map fun _ _ => rfl
theorem pl_ints (g : List Int) : plD (.lst (g.map .int)) = true := plDs_map fun _ _ => rfl
theorem cmp_ints (g : List Int) : cmpOk 20 (.lst (g.map .int)) = true := cmpOks_map (n := 19) fun k _ => cmp_int _ _
theorem ints_inj {g g' : List Int} (h : D.lst (g.map .int) = .lst (g'.map .int)) : g = g' := (List.map_inj_right fun a c q => by cases q; rfl).mp (D.lst.inj h)
/-- what a drawn desk and a bounded goal bring along -/
theorem DD.gok {n : Nat} {L : List Lim} (hd : DD n L) {g : List Int} (hg : g.length = n) (hm : ∀ i ∈ g, i.natAbs ≤ 100000000000) : ∃ M h : Nat, DOk n L M h ∧ h ≤ 400 ∧ L.length * (h + 50) ≤ 2800 ∧ GOk n M h (2 ^ 37) g := by
  obtain ⟨M, h, dok, h4, hl, hc⟩ := hd.dok
  exact ⟨M, h, dok, h4, hl, hd.len.1, hg, fun i hi => Nat.le_trans (hm i hi) (by decide), hc, Nat.pow_lt_pow_right (by decide) (by decide)⟩
theorem GOk.wok {n M h m : Nat} {g : List Int} {z : Nat} {pt : List Rat} (gk : GOk n M h m g) (hm : m ≤ 2 ^ 800) (hz : z ≤ 1790) (p : LP.PtSz z pt) (hl : pt.length ≤ 1000) : WOk g pt :=
  WOk.of (m := 801) p (fun w hw => Nat.lt_of_le_of_lt (gk.gm w hw) (Nat.lt_of_le_of_lt hm (Nat.pow_lt_pow_right (by decide) (by decide)))) (by decide) hz (Nat.le_trans hl (by decide))
end LK

/-! What certificates tell: plain Lean. -/
namespace LP
theorem dot_add_r : ∀ (as xs ys : List Rat), xs.length = ys.length → dot as (List.zipWith (· + ·) xs ys) = dot as xs + dot as ys
  | [], xs, ys, _ => by simp only [dot_nil_l]; grind
  | a :: as, [], [], _ => by simp only [List.zipWith_nil_left, dot_nil_r]; grind
  | a :: as, x :: xs, y :: ys, h => by
    rw [List.zipWith_cons_cons, dot_cons, dot_cons, dot_cons, dot_add_r as xs ys (by simpa using h)]
    grind
theorem range_map_getD (c : List Int) : qs c = (List.range c.length).map fun j => ((c.getD j 0 : Int) : Rat) := by
  apply List.ext_getElem
  · simp [qs]
  · intro i h1 h2
    have : i < c.length := by simpa [qs] using h1
    simp [qs, List.getD, this]
theorem dot_lin (s : Rat) (f g : Nat → Rat) (q : List Rat) : ∀ ls : List Nat, dot (ls.map fun j => s * f j + g j) q = s * dot (ls.map f) q + dot (ls.map g) q := by
  induction q with
  | nil => intro ls; simp only [dot_nil_r]; grind
  | cons x xs ih =>
    intro ls
    cases ls with
    | nil => simp only [List.map_nil, dot_nil_l]; grind
    | cons l ls =>
      simp only [List.map_cons, dot_cons]
      rw [ih]
      grind
/-- sums by limits are sums by kinds -/
theorem exch {n : Nat} (q : List Rat) : ∀ (L : List Lim) (sh : List Rat), Wf n L → sh.length = L.length → dot sh (L.map fun l => dot (qs l.1) q) = dot ((List.range n).map fun j => dot sh (colq L j)) q
  | [], [], _, _ => by
    simp only [List.map_nil, dot_nil_l]
    have : ((List.range n).map fun _ => (0 : Rat)) = zs n := by simp [zs, List.map_const']
    rw [this, dot_comm, dot_zs]
  | l :: L, s :: sh, w, h => by
    have ih := exch q L sh (fun m hm => w m (by simp [hm])) (by simpa using h)
    have hl : l.1.length = n := w l (by simp)
    have e : ((List.range n).map fun j => dot (s :: sh) (colq (l :: L) j)) = (List.range n).map fun j => s * ((l.1.getD j 0 : Int) : Rat) + dot sh (colq L j) := rfl
    rw [e, dot_lin, ← ih, ← hl, ← range_map_getD]
    rfl
theorem dot_le : ∀ (sh xs ys : List Rat), (∀ p ∈ sh, 0 ≤ p) → xs.length = ys.length → (∀ i, i < xs.length → xs.getD i 0 ≤ ys.getD i 0) → dot sh xs ≤ dot sh ys
  | [], xs, ys, _, _, _ => by rw [dot_nil_l, dot_nil_l]; exact Rat.le_refl
  | a :: as, [], [], _, _, _ => by rw [dot_nil_r]; exact Rat.le_refl
  | a :: as, x :: xs, y :: ys, h, hl, hx => by
    rw [dot_cons, dot_cons]
    have ih := dot_le as xs ys (fun p hp => h p (by simp [hp])) (by simpa using hl) (fun i hi => by have := hx (i + 1) (by simpa using hi); simpa using this)
    have h0 := hx 0 (by simp)
    have := Rat.mul_le_mul_of_nonneg_left (show x ≤ y by simpa using h0) (h a (by simp))
    grind
theorem shares_le {n : Nat} {L : List Lim} {sh q : List Rat} (w : Wf n L) (hl : sh.length = L.length) (hn : ∀ p ∈ sh, 0 ≤ p) (k : Keeps L q) : dot ((List.range n).map fun j => dot sh (colq L j)) q ≤ dot sh (bq L) := by
  rw [← exch q L sh w hl]
  unfold bq
  refine dot_le _ _ _ hn (by simp) fun i hi => ?_
  have hi' : i < L.length := by simpa using hi
  rw [getD_map_lt _ _ _ _ ([], 0) hi', getD_map_lt _ _ _ _ ([], 0) hi']
  exact k _ (getD_mem hi')
/-- a clash: no point -/
theorem clash_no {n : Nat} {L : List Lim} {sh q : List Rat} (w : Wf n L) (hl : sh.length = L.length) (hn : ∀ p ∈ sh, 0 ≤ p) (hw : ∀ j, j < n → dot sh (colq L j) = 0) (hb : dot sh (bq L) < 0) (k : Keeps L q) : False := by
  have := shares_le w hl hn k
  have e : ((List.range n).map fun j => dot sh (colq L j)) = zs n := by
    apply List.ext_getElem
    · simp [zs]
    · intro i h1 h2
      have hi : i < n := by simpa using h1
      simp [zs, hw i hi]
  rw [e, dot_comm, dot_zs] at this
  grind
/-- prices: no point has more -/
theorem prices_le {n : Nat} {L : List Lim} {g : List Int} {sh q : List Rat} (w : Wf n L) (hg : g.length = n) (hl : sh.length = L.length) (hn : ∀ p ∈ sh, 0 ≤ p) (hw : ∀ j, j < n → dot sh (colq L j) = ((g.getD j 0 : Int) : Rat)) (k : Keeps L q) : dot (qs g) q ≤ dot sh (bq L) := by
  have := shares_le w hl hn k
  have e : ((List.range n).map fun j => dot sh (colq L j)) = qs g := by
    rw [range_map_getD, hg]
    exact List.map_congr_left fun j hj => hw j (by simpa using hj)
  rwa [e] at this
/-- along a way -/
def along (pt way : List Rat) (t : Rat) : List Rat := List.zipWith (fun a b => a + t * b) pt way
theorem along_dot (as pt way : List Rat) (t : Rat) (h : pt.length = way.length) : dot as (along pt way t) = dot as pt + t * dot as way := by
  rw [dot_comm]
  unfold along
  rw [dot_zip _ _ _ _ h, dot_comm pt, dot_comm way]
theorem along_keeps {L : List Lim} {pt way : List Rat} {t : Rat} (h : pt.length = way.length) (ht : 0 ≤ t) (k : Keeps L pt) (hw : ∀ l ∈ L, dot (qs l.1) way ≤ 0) : Keeps L (along pt way t) := fun l hl => by
  rw [along_dot _ _ _ _ h]
  have a := k l hl
  have b := hw l hl
  have := Rat.mul_nonneg ht (show 0 ≤ -dot (qs l.1) way by grind)
  grind
/-- the best worth; none without an end -/
def TopV (n : Nat) (L : List Lim) (g : List Int) : Option Rat → Prop
  | some w => (∃ pt, pt.length = n ∧ Keeps L pt ∧ dot (qs g) pt = w) ∧ ∀ q, q.length = n → Keeps L q → dot (qs g) q ≤ w
  | none => ∀ c, ∃ q, q.length = n ∧ Keeps L q ∧ c < dot (qs g) q
theorem TopV.uniq {n : Nat} {L : List Lim} {g : List Int} : ∀ {v v' : Option Rat}, TopV n L g v → TopV n L g v' → v = v'
  | some w, some w', ⟨⟨p, p1, p2, p3⟩, a⟩, ⟨⟨q, q1, q2, q3⟩, b⟩ => by
    have h1 := a q q1 q2
    have h2 := b p p1 p2
    congr 1
    grind
  | some w, none, ⟨_, a⟩, b => by
    obtain ⟨q, q1, q2, q3⟩ := b w
    have := a q q1 q2
    grind
  | none, some w, b, ⟨_, a⟩ => by
    obtain ⟨q, q1, q2, q3⟩ := b w
    have := a q q1 q2
    grind
  | none, none, _, _ => rfl
theorem TopV.pt {n : Nat} {L : List Lim} {g : List Int} : ∀ {v : Option Rat}, TopV n L g v → ∃ q, q.length = n ∧ Keeps L q
  | some w, ⟨⟨p, p1, p2, _⟩, _⟩ => ⟨p, p1, p2⟩
  | none, b => by
    obtain ⟨q, q1, q2, _⟩ := b 0
    exact ⟨q, q1, q2⟩
theorem top_way {n : Nat} {L : List Lim} {g : List Int} {pt way : List Rat} (hp : pt.length = n) (hw : way.length = n) (k : Keeps L pt) (kw : ∀ l ∈ L, dot (qs l.1) way ≤ 0) (up : 0 < dot (qs g) way) : TopV n L g none := fun c => by
  by_cases h : c < dot (qs g) pt
  · exact ⟨pt, hp, k, h⟩
  · let t : Rat := (c - dot (qs g) pt) / dot (qs g) way + 1
    have ht : 0 ≤ t := by
      have : 0 ≤ (c - dot (qs g) pt) * (dot (qs g) way)⁻¹ := Rat.mul_nonneg (by grind) (Rat.le_of_lt (Rat.inv_pos.mpr up))
      show 0 ≤ (c - dot (qs g) pt) / dot (qs g) way + 1
      rw [Rat.div_def]
      grind
    refine ⟨along pt way t, by simp [along, hp, hw], along_keeps (by omega) ht k kw, ?_⟩
    rw [along_dot _ _ _ _ (by omega)]
    show c < dot (qs g) pt + ((c - dot (qs g) pt) / dot (qs g) way + 1) * dot (qs g) way
    have hne : dot (qs g) way ≠ 0 := by grind
    have : (c - dot (qs g) pt) / dot (qs g) way * dot (qs g) way = c - dot (qs g) pt := by grind
    grind
theorem top_best {n : Nat} {L : List Lim} {g : List Int} {pt sh : List Rat} (w : Wf n L) (hg : g.length = n) (hp : pt.length = n) (k : Keeps L pt) (hl : sh.length = L.length) (hn : ∀ p ∈ sh, 0 ≤ p) (hw : ∀ j, j < n → dot sh (colq L j) = ((g.getD j 0 : Int) : Rat)) (hb : dot sh (bq L) = dot (qs g) pt) : TopV n L g (some (dot (qs g) pt)) :=
  ⟨⟨pt, hp, k, rfl⟩, fun q _ kq => by rw [← hb]; exact prices_le w hg hl hn hw kq⟩
end LP

namespace LK
open PySem
local macro_rules | `(tactic| trivial) => `(tactic| (try simp only [ent, List.length, List.map, List.replicate, List.cons_append, List.nil_append, Nat.sub_self, Nat.add_one_sub_one, Nat.reduceAdd, Nat.reduceSub]) <;> try simp only [wB, wS, wE, wEs, wO, wC, wSrc, theB, fld, bd_rows, bd_goal, bd_heads, bd_tails, e_rowlst, true_and, e_limT0, e_limT1, e_limL0, e_limL1, e_fr0, e_fr1, e_dk0, e_dk1, e_ptlen, e_ptlst, len_map, Int.toNat_natCast, e_slt, e_tcat, e_neg, e_abs, e_lent, e_lenl, e_lens, e_lenS, e_tupt, e_tupl, e_lstt, e_lstl, e_inti, e_intb, e_str, e_isInt, e_isBool, e_isTup, e_isLst, e_isStr, e_isN, e_notN, e_add, e_sub, e_mul, e_fdiv, e_mod, e_pow, e_lt, e_le, e_gt, e_ge, e_eqi, e_nei, e_cat, e_tcat, e_ixl, e_ixs, e_ixt0, e_ixt1, e_ixt2, e_max, e_min, e_test, e_seql, e_seqt, e_seqs, e_rng, e_rng2, e_zipl, e_zipt, e_ziptt, e_sll, e_slt, e_sls, e_nm, e_pr, gt, st, ent, List.map, List.replicate, List.length, List.cons_append, List.nil_append, kOf, Nat.sub_self, Nat.add_one_sub_one, Nat.reduceAdd, Nat.reduceSub, reduceCtorEq, decide_eq_true_eq, Bool.not_eq_true', decide_eq_false_iff_not, if_true, if_false, Bool.false_eq_true, ite_true, ite_false])
open LP (dot qs kB zs TopV)
theorem ixl0 {x : D} {xs : List D} {Q : D → Prop} (q : Q x) : w2 .ix (.lst (x :: xs)) (.int 0) Q := ⟨x, atI_nn (xs := x :: xs) (k := 0) rfl, q⟩
theorem ixl1 {x y : D} {xs : List D} {Q : D → Prop} (q : Q y) : w2 .ix (.lst (x :: y :: xs)) (.int 1) Q := ⟨y, atI_nn (xs := x :: y :: xs) (k := 1) rfl, q⟩
theorem at0 {x : D} {xs : List D} {Q : D → Prop} (q : Q x) : ∃ z, L2.atI (x :: xs) 0 = some z ∧ Q z := ⟨x, atI_nn (xs := x :: xs) (k := 0) rfl, q⟩
theorem at1 {x y : D} {xs : List D} {Q : D → Prop} (q : Q y) : ∃ z, L2.atI (x :: y :: xs) 1 = some z ∧ Q z := ⟨y, atI_nn (xs := x :: y :: xs) (k := 1) rfl, q⟩
def optD : Option Rat → D
  | none => .non
  | some r => fr r
theorem best_top {n : Nat} {L : List Lim} {g : List Int} {h h' : Nat} {pt sh : List Rat} (w : LP.Wf n L) (hg : g.length = n) (p : Pt n L h' pt) (pr : Prices n L g h pt sh) : TopV n L g (some (dot (qs g) pt)) := LP.top_best w hg p.len p.keeps pr.len pr.nn pr.ws pr.bd
theorem way_top {n : Nat} {L : List Lim} {g : List Int} {h h' : Nat} {pt way : List Rat} (p : Pt n L h' pt) (wy : Way n L g h way) : TopV n L g none := LP.top_way p.len wy.len p.keeps wy.keeps wy.up
theorem Clash.no {n : Nat} {L : List Lim} {h : Nat} {sh q : List Rat} (w : LP.Wf n L) (c : Clash n L h sh) (k : LP.Keeps L q) : False := LP.clash_no w c.len c.nn c.ws c.bd k
def NoPt (n : Nat) (L : List Lim) : Prop := ∀ q : List Rat, q.length = n → ¬ LP.Keeps L q
theorem Clash.nopt {n : Nat} {L : List Lim} {h : Nat} {sh : List Rat} (w : LP.Wf n L) (c : Clash n L h sh) : NoPt n L := fun q _ k => c.no w k
/-- bounded desk and goal -/
def Bnd (n : Nat) (L : List Lim) (g : List Int) : Prop := ∃ M h m, DOk n L M h ∧ GOk n M h m g ∧ h ≤ 800 ∧ m ≤ 2 ^ 800
def sp_76 : FSp := fun ds b Q E => ∃ (n : Nat) (L : List Lim) (g : List Int), ds = [deskD n L, .lst (g.map .int)] ∧ b = none ∧ Bnd n L g ∧ (∀ v, TopV n L g v → (∀ w, v = some w → Sz 2900 w) → Q (optD v) none) ∧ (NoPt n L → E 5)
theorem len_76 (ds b Q E) (h : sp_76 ds b Q E) : ds.length = 2 := by
  obtain ⟨i, L, B, rfl, _⟩ := h
  rfl
theorem meets_76 {G : Gm} (h28 : G.sp 28 = sp_28) (h71 : G.sp 71 = sp_71) (r : G.fr 76 = false) : ∀ ds b Q E, sp_76 ds b Q E → wB G B_76 (kOf (G.fr 76) Q E) (ent N_76.length ds) b := by
  rintro ds b Q E ⟨n, L, g, rfl, rfl, ⟨M, h, m, dk, gk, h8, hm⟩, hQ, hE⟩
  unfold B_76 N_76
  trivial
  rw [h28, h71]
  have h9 := dk.h9
  have n1 := dk.n1
  refine ⟨n, L, _, rfl, cl_ints g, rfl, fun g' e hg' => ⟨M, h, m, dk, ints_inj e ▸ gk, ?_⟩, fun z => absurd ⟨g, rfl, gk.len⟩ z⟩
  have e4 := ints_inj e
  subst e4
  refine ⟨fun pt sh p pr => ?_, fun pt way p wy => ?_, fun sh c => ?_⟩
  · trivial
    refine eq_str (by decide +kernel) (by decide +kernel) ?_
    rw [decide_eq_false (by decide +kernel)]
    trivial
    refine eq_str (by decide +kernel) (by decide +kernel) ?_
    rw [decide_eq_false (by decide +kernel)]
    trivial
    have plen := p.len
    have wok : WOk g pt := gk.wok hm (by omega) p.sz (by omega)
    exact ⟨_, g, pt, rfl, .inr rfl, wok, .inl (hQ _ (best_top dk.w gk.len p pr) fun w e => by cases e; exact wok.sz)⟩
  · trivial
    refine eq_str (by decide +kernel) (by decide +kernel) ?_
    rw [decide_eq_false (by decide +kernel)]
    trivial
    refine eq_str (by decide +kernel) (by decide +kernel) ?_
    rw [decide_eq_true rfl]
    trivial
    exact .inl (hQ none (way_top p wy) fun w e => by cases e)
  · trivial
    refine eq_str (by decide +kernel) (by decide +kernel) ?_
    rw [decide_eq_true rfl]
    trivial
    exact hE (c.nopt dk.w)
def sp_77 : FSp := fun ds b Q E => ∃ (n : Int) (d : D), ds = [.int n, d] ∧ clD d = true ∧ (∀ i : Int, d = .int i → 0 ≤ i → i < n → Q d b) ∧ ((¬ ∃ i : Int, d = .int i ∧ 0 ≤ i ∧ i < n) → E 4)
theorem len_77 (ds b Q E) (h : sp_77 ds b Q E) : ds.length = 2 := by
  obtain ⟨i, L, rfl, _⟩ := h
  rfl
theorem meets_77 {G : Gm} (h19 : G.sp 19 = sp_19) (r : G.fr 77 = false) : ∀ ds b Q E, sp_77 ds b Q E → wB G B_77 (kOf (G.fr 77) Q E) (ent N_77.length ds) b := by
  rintro ds b Q E ⟨n, d, rfl, hc, hQ, hE⟩
  unfold B_77 N_77
  trivial
  rw [h19]
  refine ⟨d, rfl, clD_brd hc, ?_⟩
  trivial
  refine L2.ite2 (fun h => hE ?_) fun h => ?_
  · rintro ⟨i, rfl, _⟩
    simp [isWh, isIntD, isBoolD] at h
  obtain ⟨i, rfl⟩ := isWh_int (by simpa using h)
  trivial
  refine L2.ite2 (fun h1 => hE ?_) fun h1 => L2.ite2 (fun h2 => hE ?_) fun h2 => .inl (hQ i rfl (by omega) (by omega))
  · rintro ⟨j, e, h3, h4⟩
    cases e
    omega
  · rintro ⟨j, e, h3, h4⟩
    cases e
    omega
/-- a goal of one kind alone -/
def oneI (n k : Nat) (c : Int) : List Int := (List.range n).map fun j => if j = k then c else 0
theorem oneI_len (n k : Nat) (c : Int) : (oneI n k c).length = n := by simp [oneI]
theorem oneI_le {n k : Nat} {c : Int} {m : Nat} (hc : c.natAbs ≤ m) : ∀ i ∈ oneI n k c, i.natAbs ≤ m := fun i hi => by
  obtain ⟨j, _, rfl⟩ := List.mem_map.mp hi
  split
  · exact hc
  · simp
def sp_78 : FSp := fun ds b Q E => ∃ (n k : Nat) (c : Int), ds = [.int n, .int k, .int c] ∧ n ≤ 1000 ∧ c.natAbs ≤ 1 ∧ Q (.lst ((oneI n k c).map .int)) b
theorem len_78 (ds b Q E) (h : sp_78 ds b Q E) : ds.length = 3 := by
  obtain ⟨i, L, _, rfl, _⟩ := h
  rfl
theorem meets_78 {G : Gm} (r : G.fr 78 = false) : ∀ ds b Q E, sp_78 ds b Q E → wB G B_78 (kOf (G.fr 78) Q E) (ent N_78.length ds) b := by
  rintro ds b Q E ⟨n, k, c, rfl, hn, hc, hQ⟩
  unfold B_78 N_78
  trivial
  refine ⟨by omega, by simp [rngD]; omega, wmap_range (fun j => .int (if j = k then c else 0)) (fun j hj R hR => ?_) (.inl ?_)⟩
  · trivial
    refine ⟨MulOk.l (by omega), ?_⟩
    have e : c * (if (j : Int) = (k : Int) then 1 else 0) = if j = k then c else 0 := by
      by_cases q : j = k
      · subst q; simp
      · rw [if_neg q, if_neg (by omega : ¬ (j : Int) = (k : Int))]; simp
    rw [e]
    exact hR
  · have e : ((oneI n k c).map D.int) = (List.range n).map fun j => .int (if j = k then c else 0) := by
      unfold oneI
      rw [List.map_map]
      rfl
    rw [← e]
    exact hQ
def sp_79 : FSp := fun ds b Q E => ∃ (n : Nat) (L : List Lim) (d : D), ds = [deskD n L, d] ∧ clD d = true ∧ b = none ∧ n ≤ 1000 ∧
  (∀ k : Nat, d = .int k → k < n → Bnd n L (oneI n k (-1)) ∧ Bnd n L (oneI n k 1) ∧ (∀ v1 v2, TopV n L (oneI n k (-1)) v1 → TopV n L (oneI n k 1) v2 → (∀ w, v1 = some w → Sz 2900 w) → (∀ w, v2 = some w → Sz 2900 w) → Q (.tup [optD (v1.map fun w => -w), optD v2]) none) ∧ (NoPt n L → E 5)) ∧ ((¬ ∃ k : Nat, d = .int k ∧ k < n) → E 4)
theorem len_79 (ds b Q E) (h : sp_79 ds b Q E) : ds.length = 2 := by
  obtain ⟨i, L, _, rfl, _⟩ := h
  rfl
theorem meets_79 {G : Gm} (h11 : G.sp 11 = sp_11) (h76 : G.sp 76 = sp_76) (h77 : G.sp 77 = sp_77) (h78 : G.sp 78 = sp_78) (r : G.fr 79 = false) : ∀ ds b Q E, sp_79 ds b Q E → wB G B_79 (kOf (G.fr 79) Q E) (ent N_79.length ds) b := by
  rintro ds b Q E ⟨n, L, d, rfl, hc, rfl, hn, hQ, hE⟩
  unfold B_79 N_79
  trivial
  rw [h11, h76, h77, h78]
  refine ⟨n, d, rfl, hc, fun i e h0 h1 => ?_, fun z => hE fun ⟨k, e, hk⟩ => z ⟨k, e, by omega, by omega⟩⟩
  obtain ⟨k, rfl⟩ : ∃ k : Nat, i = k := ⟨i.toNat, by omega⟩
  subst e
  obtain ⟨b1, b2, hq, hno⟩ := hQ k rfl (by omega)
  trivial
  refine ⟨n, k, -1, rfl, hn, by decide, n, L, _, rfl, rfl, b1, fun v1 t1 z1 => ?_, hno⟩
  trivial
  cases v1 with
  | none =>
    refine L2.ite2 (fun z => absurd z (by simp [isNonD, optD])) fun _ => ?_
    refine ⟨n, k, 1, rfl, hn, by decide, n, L, _, rfl, rfl, b2, fun v2 t2 z2 => ?_, hno⟩
    exact .inl (hq none v2 t1 t2 z1 z2)
  | some w =>
    refine L2.ite2 (fun _ => ?_) fun z => absurd (by simp [isNonD, optD, fr]) z
    refine ⟨w, rfl, n, k, 1, rfl, hn, by decide, n, L, _, rfl, rfl, b2, fun v2 t2 z2 => ?_, hno⟩
    exact .inl (hq (some w) v2 t1 t2 z1 z2)
end LK

/-! Covers, needless limits, lean desks: plain Lean. -/
namespace LP
def ins0 (sh : List Rat) (k : Nat) : List Rat := sh.take k ++ 0 :: sh.drop k
theorem dot_ins : ∀ (k : Nat) (as xs : List Rat), k ≤ as.length → xs.length = as.length + 1 → dot (ins0 as k) xs = dot as (xs.eraseIdx k)
  | 0, as, x :: xs, _, _ => by
    simp only [ins0, List.take_zero, List.drop_zero, List.nil_append, dot_cons, List.eraseIdx_cons_zero]
    grind
  | k + 1, a :: as, x :: xs, h, hl => by
    have ih := dot_ins k as xs (by simpa using h) (by simpa using hl)
    simp only [ins0] at ih
    simp only [ins0, List.take_succ_cons, List.drop_succ_cons, List.cons_append, dot_cons, List.eraseIdx_cons_succ]
    rw [ih]
theorem ins_len {sh : List Rat} {k : Nat} (h : k ≤ sh.length) : (ins0 sh k).length = sh.length + 1 := by
  simp [ins0]
  omega
theorem ins_mem {sh : List Rat} {k : Nat} {p : Rat} (h : p ∈ ins0 sh k) : p = 0 ∨ p ∈ sh := by
  unfold ins0 at h
  rcases List.mem_append.mp h with q | q
  · exact .inr (List.mem_of_mem_take q)
  · rcases List.mem_cons.mp q with q | q
    · exact .inl q
    · exact .inr (List.mem_of_mem_drop q)
theorem ins_at {sh : List Rat} {k : Nat} (h : k ≤ sh.length) : (ins0 sh k).getD k 0 = 0 := by
  unfold ins0
  rw [List.getD, List.getElem?_append_right (by rw [List.length_take]; omega), List.length_take, Nat.min_eq_left h, Nat.sub_self]
  rfl
theorem colq_erase (L : List Lim) (k j : Nat) : colq (L.eraseIdx k) j = (colq L j).eraseIdx k := map_erase _ _ _
theorem bq_erase (L : List Lim) (k : Nat) : bq (L.eraseIdx k) = (bq L).eraseIdx k := map_erase _ _ _
/-- a limit that is needless -/
def Need (n : Nat) (L : List Lim) (k : Nat) : Prop := ∀ q, q.length = n → Keeps (L.eraseIdx k) q → dot (qs (L.getD k ([], 0)).1) q ≤ ((L.getD k ([], 0)).2 : Rat)
theorem keeps_sub {L L' : List Lim} {q : List Rat} (h : ∀ l ∈ L', l ∈ L) (k : Keeps L q) : Keeps L' q := fun l hl => k l (h l hl)
theorem mem_erase_idx {L : List Lim} {k : Nat} {l : Lim} : l ∈ L.eraseIdx k ↔ ∃ i, i ≠ k ∧ i < L.length ∧ L.getD i ([], 0) = l := by
  rw [List.mem_eraseIdx_iff_getElem?]
  constructor
  · rintro ⟨i, h, e⟩
    obtain ⟨hi, e2⟩ := List.getElem?_eq_some_iff.mp e
    exact ⟨i, h, hi, by rw [getD_eq hi, e2]⟩
  · rintro ⟨i, h, hi, e⟩
    exact ⟨i, h, by rw [List.getElem?_eq_getElem hi, ← getD_eq (d := ([], 0)) hi, e]⟩
theorem getD_erase_lt {L : List Lim} {i p : Nat} (h : i < p) : (L.eraseIdx p).getD i ([], 0) = L.getD i ([], 0) := by
  simp [List.getD, List.getElem?_eraseIdx, h]
/-- a limit that isn't needless stays so when a later one goes -/
theorem need_erase {n : Nat} {L : List Lim} {i p : Nat} (h : i < p) (hn : ¬ Need n L i) : ¬ Need n (L.eraseIdx p) i := fun z => by
  apply hn
  intro q hq k
  have := z q hq (keeps_sub (fun l hl => by
    rw [mem_erase_idx] at hl ⊢
    obtain ⟨a, h1, h2, h3⟩ := hl
    by_cases ha : a < p
    · rw [getD_erase_lt ha] at h3
      exact ⟨a, h1, by have := List.length_eraseIdx_le (l := L) (i := p); omega, h3⟩
    · have : (L.eraseIdx p).getD a ([], 0) = L.getD (a + 1) ([], 0) := by simp [List.getD, List.getElem?_eraseIdx, ha]
      rw [this] at h3
      have hl := List.length_eraseIdx (l := L) (i := p)
      split at hl <;> exact ⟨a + 1, by omega, by omega, h3⟩) k)
  rwa [getD_erase_lt h] at this
open Classical in
noncomputable def leanR (n : Nat) (L : List Lim) (p : Nat) : List Lim :=
  if h : p < L.length then
    if Need n L p then leanR n (L.eraseIdx p) p else leanR n L (p + 1)
  else L
termination_by L.length - p
decreasing_by
  · rw [List.length_eraseIdx_of_lt h]; omega
  · omega
theorem leanR_need {n : Nat} {L : List Lim} {p : Nat} (h : p < L.length) (hn : Need n L p) : leanR n L p = leanR n (L.eraseIdx p) p := by
  rw [leanR, dif_pos h, if_pos hn]
theorem leanR_not {n : Nat} {L : List Lim} {p : Nat} (h : p < L.length) (hn : ¬ Need n L p) : leanR n L p = leanR n L (p + 1) := by
  rw [leanR, dif_pos h, if_neg hn]
theorem leanR_end {n : Nat} {L : List Lim} {p : Nat} (h : ¬ p < L.length) : leanR n L p = L := by
  rw [leanR, dif_neg h]
/-- along a way beyond a limit -/
theorem beyond_gt {w : List Int} {b : Rat} {pt way : List Rat} {t : Rat} (hl : pt.length = way.length) (up : 0 < dot (qs w) way) (ht : (b - dot (qs w) pt) / dot (qs w) way ≤ t) : b < dot (qs w) (along pt way (t + 1)) := by
  rw [along_dot _ _ _ _ hl]
  have hne : dot (qs w) way ≠ 0 := by grind
  have e : (b - dot (qs w) pt) / dot (qs w) way * dot (qs w) way = b - dot (qs w) pt := by grind
  have h1 := Rat.mul_le_mul_of_nonneg_right ht (Rat.le_of_lt up)
  grind
theorem frac_id {u a n d v c : Rat} (ha : a ≠ 0) (hc : c ≠ 0) (hd : d ≠ 0) : u / a + (n / d) * (v / c) = (u * c * d + n * v * a) / (a * c * d) := by grind
theorem along_sz {z T : Nat} {pt way : List Rat} {t : Rat} (hp : PtSz z pt) (hw : PtSz z way) (htn : t.num.natAbs < 2 ^ T) (htd : t.den < 2 ^ T) : PtSz (2 * z + T + 1) (along pt way t) := by
  obtain ⟨D1, a0, a1, a2⟩ := hp
  obtain ⟨D2, b0, b1, b2⟩ := hw
  have tden : ((t.den : Nat) : Int) ≠ 0 := by have := t.den_nz; omega
  have mul_lt : ∀ {i j : Int} {a b : Nat}, i.natAbs < 2 ^ a → j.natAbs < 2 ^ b → (i * j).natAbs < 2 ^ (a + b) := fun h h' => by
    rw [Int.natAbs_mul, Nat.pow_add]
    exact Nat.mul_lt_mul'' h h'
  have htd' : ((t.den : Nat) : Int).natAbs < 2 ^ T := by rw [Int.natAbs_natCast]; exact htd
  have e2 : z + z + T = 2 * z + T := by omega
  refine ⟨D1 * D2 * t.den, Int.mul_ne_zero (Int.mul_ne_zero a0 b0) tden, ?_, fun c hc => ?_⟩
  · have := mul_lt (mul_lt a1 b1) htd'
    rw [e2] at this
    exact Nat.lt_of_lt_of_le this (Nat.pow_le_pow_right (by decide) (by omega))
  · unfold along at hc
    obtain ⟨i, hi, rfl⟩ := List.mem_iff_getElem.mp hc
    simp only [List.length_zipWith] at hi
    rw [List.getElem_zipWith]
    obtain ⟨u, u1, u2⟩ := a2 _ (List.getElem_mem (by omega : i < pt.length))
    obtain ⟨v, v1, v2⟩ := b2 _ (List.getElem_mem (by omega : i < way.length))
    refine ⟨u * D2 * t.den + t.num * v * D1, ?_, ?_⟩
    · have h1 := mul_lt (mul_lt u1 b1) htd'
      have h2 := mul_lt (mul_lt htn v1) a1
      rw [e2] at h1
      rw [show T + z + z = 2 * z + T by omega] at h2
      rw [Nat.pow_succ]
      omega
    · rw [u2, v2]
      have et : t = (t.num : Rat) / ((t.den : Nat) : Rat) := by
        have := Rat.num_divInt_den t
        rw [Rat.divInt_eq_div] at this
        exact this.symm
      have q1 : (D1 : Rat) ≠ 0 := fun e => a0 (Rat.intCast_inj.mp (e.trans rfl))
      have q2 : (D2 : Rat) ≠ 0 := fun e => b0 (Rat.intCast_inj.mp (e.trans rfl))
      have q3 : ((t.den : Nat) : Rat) ≠ 0 := fun e => t.den_nz (by exact_mod_cast e)
      conv => lhs; rw [et]
      simp only [Rat.intCast_add, Rat.intCast_mul, Rat.intCast_natCast]
      exact frac_id q1 q2 q3
end LP

namespace LK
open PySem
local macro_rules | `(tactic| trivial) => `(tactic| (try simp only [ent, List.length, List.map, List.replicate, List.cons_append, List.nil_append, Nat.sub_self, Nat.add_one_sub_one, Nat.reduceAdd, Nat.reduceSub]) <;> try simp only [wB, wS, wE, wEs, wO, wC, wSrc, theB, fld, bd_rows, bd_goal, bd_heads, bd_tails, e_rowlst, true_and, e_limT0, e_limT1, e_limL0, e_limL1, e_fr0, e_fr1, e_dk0, e_dk1, e_ptlen, e_ptlst, len_map, Int.toNat_natCast, e_slt, e_tcat, e_neg, e_abs, e_lent, e_lenl, e_lens, e_lenS, e_tupt, e_tupl, e_lstt, e_lstl, e_inti, e_intb, e_str, e_isInt, e_isBool, e_isTup, e_isLst, e_isStr, e_isN, e_notN, e_add, e_sub, e_mul, e_fdiv, e_mod, e_pow, e_lt, e_le, e_gt, e_ge, e_eqi, e_nei, e_cat, e_tcat, e_ixl, e_ixs, e_ixt0, e_ixt1, e_ixt2, e_max, e_min, e_test, e_seql, e_seqt, e_seqs, e_rng, e_rng2, e_zipl, e_zipt, e_ziptt, e_sll, e_slt, e_sls, e_nm, e_pr, gt, st, ent, List.map, List.replicate, List.length, List.cons_append, List.nil_append, kOf, Nat.sub_self, Nat.add_one_sub_one, Nat.reduceAdd, Nat.reduceSub, reduceCtorEq, decide_eq_true_eq, Bool.not_eq_true', decide_eq_false_iff_not, if_true, if_false, Bool.false_eq_true, ite_true, ite_false])
open LP (dot qs kB zs TopV ins0 along Need leanR)
/-! ### covers -/
def sp_82 : FSp := fun ds b Q E => ∃ (n : D) (L : List Lim) (k : Nat), ds = [.tup [n, .tup (L.map limT)], .int k] ∧ L.length ≤ 100000 ∧ Q (.tup [n, .tup ((L.eraseIdx k).map limT)]) b
theorem len_82 (ds b Q E) (h : sp_82 ds b Q E) : ds.length = 2 := by
  obtain ⟨i, L, _, rfl, _⟩ := h
  rfl
theorem meets_82 {G : Gm} (r : G.fr 82 = false) : ∀ ds b Q E, sp_82 ds b Q E → wB G B_82 (kOf (G.fr 82) Q E) (ent N_82.length ds) b := by
  rintro ds b Q E ⟨n, L, k, rfl, hl, hQ⟩
  unfold B_82 N_82
  trivial
  have l1 := cut_len (L.map limT) none (some (k : Int))
  have l2 := cut_len (L.map limT) (some ((k : Int) + 1)) none
  rw [List.length_map] at l1 l2
  refine ⟨by omega, .inl ?_⟩
  rw [cut_to _ (k := k) rfl, cut_from _ (k := k + 1) (by omega), erase_cut, ← LP.map_erase]
  exact hQ
def sp_83 : FSp := fun ds b Q E => ∃ (sh : List Rat) (k : Nat), ds = [ptD sh, .int k] ∧ sh.length ≤ 100000 ∧ Q (ptD (ins0 sh k)) b
theorem len_83 (ds b Q E) (h : sp_83 ds b Q E) : ds.length = 2 := by
  obtain ⟨i, L, rfl, _⟩ := h
  rfl
theorem meets_83 {G : Gm} (g3 : G.gc 3 = .tup [.int 0, .int 1]) (r : G.fr 83 = false) : ∀ ds b Q E, sp_83 ds b Q E → wB G B_83 (kOf (G.fr 83) Q E) (ent N_83.length ds) b := by
  rintro ds b Q E ⟨sh, k, rfl, hl, hQ⟩
  unfold B_83 N_83 ptD
  trivial
  have l1 := cut_len (sh.map fr) none (some (k : Int))
  have l2 := cut_len (sh.map fr) (some (k : Int)) none
  rw [List.length_map] at l1 l2
  rw [g3, show D.tup [.int 0, .int 1] = fr (0 : Rat) from fr_int 0]
  refine ⟨by omega, by rw [List.length_append, List.length_cons, List.length_nil]; omega, .inl ?_⟩
  rw [cut_to _ (k := k) rfl, cut_from _ (k := k) rfl]
  have e : ptD (ins0 sh k) = .lst ((sh.map fr).take k ++ [fr 0] ++ (sh.map fr).drop k) := by
    unfold ptD ins0
    simp [List.map_take, List.map_drop]
  rw [← e]
  exact hQ
def sp_84 : FSp := fun ds b Q E => ∃ (pt way : List Rat) (t : Rat), ds = [ptD pt, ptD way, fr t] ∧ pt.length ≤ 1000 ∧ (∀ a ∈ pt, Sz 4000 a) ∧ (∀ a ∈ way, Sz 1800 a) ∧ Sz 2000 t ∧ Q (ptD (along pt way t)) b
theorem len_84 (ds b Q E) (h : sp_84 ds b Q E) : ds.length = 3 := by
  obtain ⟨i, L, _, rfl, _⟩ := h
  rfl
theorem meets_84 {G : Gm} (h10 : G.sp 10 = sp_10) (h13 : G.sp 13 = sp_13) (r : G.fr 84 = false) : ∀ ds b Q E, sp_84 ds b Q E → wB G B_84 (kOf (G.fr 84) Q E) (ent N_84.length ds) b := by
  rintro ds b Q E ⟨pt, way, t, rfl, hl, h1, h2, ht, hQ⟩
  unfold B_84 N_84 ptD
  trivial
  rw [h10, h13, zipD_map]
  refine ⟨by rw [List.length_map, List.length_zip]; omega, wmap_e (fun q : Rat × Rat => D.tup [fr q.1, fr q.2]) (fun q : Rat × Rat => fr (q.1 + t * q.2)) (fun q hq R hR => ?_) (.inl ?_)⟩
  · have hq' := List.of_mem_zip hq
    trivial
    exact ⟨_, _, rfl, ht.mono (by decide), (h2 _ hq'.2).mono (by decide), _, _, rfl, (h1 _ hq'.1).mono (by decide), (sz_mul' ht (h2 _ hq'.2)).mono (by decide), hR⟩
  · have e : ptD (along pt way t) = .lst ((pt.zip way).map fun q : Rat × Rat => fr (q.1 + t * q.2)) := by
      unfold ptD along
      rw [List.zip, List.map_zipWith, List.map_zipWith]
    rw [← e]
    exact hQ
/-- a weight of a well sized point -/
theorem wsz {ws : List Int} {pt : List Rat} {z m : Nat} (p : LP.PtSz z pt) (hw : ∀ w ∈ ws, w.natAbs < 2 ^ m) (hl : pt.length ≤ 128) (c : Int) (hc : c.natAbs < 2 ^ m) : Sz (z + m + 9) ((c : Rat) - dot (qs ws) pt) ∧ Sz (z + m + 9) (dot (qs ws) pt) := by
  obtain ⟨D, h0, hD, hp⟩ := p
  have o := LP.OfD.dot (g := ws) (xs := pt) (D := D) (b := 2 ^ z) (m := 2 ^ m) (fun a ha => Nat.le_of_lt (hw a ha)) fun x hx => by
    obtain ⟨u, h1, h2⟩ := hp x hx
    exact ⟨u, Nat.le_of_lt h1, h2⟩
  have hDq : (D : Rat) ≠ 0 := fun e => h0 (Rat.intCast_inj.mp (e.trans rfl))
  have o2 : LP.OfD D (2 ^ m * 2 ^ z) (c : Rat) := ⟨c * D, by rw [Int.natAbs_mul]; exact Nat.mul_le_mul (Nat.le_of_lt hc) (Nat.le_of_lt hD), by rw [Rat.intCast_mul]; grind⟩
  have hb : pt.length * (2 ^ m * 2 ^ z) ≤ 128 * (2 ^ m * 2 ^ z) := Nat.mul_le_mul_right _ hl
  have e : 2 ^ (z + m + 9) = 512 * (2 ^ m * 2 ^ z) := by
    rw [← Nat.pow_add, show z + m + 9 = 9 + (m + z) by omega, Nat.pow_add]
  have hpos : 0 < 2 ^ m * 2 ^ z := Nat.mul_pos (Nat.pow_pos (by decide)) (Nat.pow_pos (by decide))
  have hD2 : D.natAbs < 2 ^ (z + m + 9) := Nat.lt_of_lt_of_le hD (Nat.pow_le_pow_right (by decide) (by omega))
  exact ⟨Sz.fz ((o2.sub o).fz h0 hD2 (by rw [e]; omega)), Sz.fz (o.fz h0 hD2 (by rw [e]; omega))⟩
theorem PtSz.sz {z : Nat} {pt : List Rat} (p : LP.PtSz z pt) : ∀ a ∈ pt, Sz z a := fun a ha => Sz.fz (p.fz a ha)
def sp_85 : FSp := fun ds b Q E => ∃ (l : Lim) (pt way : List Rat) (z m : Nat), ds = [limT l, ptD pt, ptD way] ∧ pt.length = way.length ∧ pt.length ≤ 128 ∧ LP.PtSz z pt ∧ LP.PtSz z way ∧ (∀ w ∈ l.1, w.natAbs < 2 ^ m) ∧ l.2.natAbs < 2 ^ m ∧ 0 < m ∧ m ≤ 900 ∧ z + m + 9 ≤ 490 ∧ z ≤ 385 ∧ 0 < dot (qs l.1) way ∧ ∀ q : List Rat, q.length = pt.length → (∃ t, 1 ≤ t ∧ q = along pt way t) → ((l.2 : Rat) < dot (qs l.1) q) → LP.PtSz 1790 q → Q (ptD q) b
theorem len_85 (ds b Q E) (h : sp_85 ds b Q E) : ds.length = 3 := by
  obtain ⟨i, L, _, _, _, rfl, _⟩ := h
  rfl
theorem meets_85 {G : Gm} (h5 : G.sp 5 = sp_5) (h10 : G.sp 10 = sp_10) (h12 : G.sp 12 = sp_12) (h14 : G.sp 14 = sp_14) (h28 : G.sp 28 = sp_28) (h84 : G.sp 84 = sp_84) (g3 : G.gc 3 = .tup [.int 0, .int 1]) (g4 : G.gc 4 = .tup [.int 1, .int 1]) (r : G.fr 85 = false) : ∀ ds b Q E, sp_85 ds b Q E → wB G B_85 (kOf (G.fr 85) Q E) (ent N_85.length ds) b := by
  rintro ds b Q E ⟨l, pt, way, z, m, rfl, hl, hl2, hp, hw, hm, hm2, m0, m9, hz, hz2, up, hQ⟩
  unfold B_85 N_85
  trivial
  rw [h5, h10, h12, h14, h28, h84, g3, g4, show D.tup [.int 0, .int 1] = fr (0 : Rat) from fr_int 0, show D.tup [.int 1, .int 1] = fr (1 : Rat) from fr_int 1]
  have w1 : WOk l.1 pt := WOk.of hp hm m9 (by omega) (Nat.le_trans hl2 (by decide))
  have w2' : WOk l.1 way := WOk.of hw hm m9 (by omega) (Nat.le_trans (show way.length ≤ 128 by omega) (by decide))
  have s1 := wsz hp hm hl2 l.2 hm2
  have s2 := wsz hw hm (by omega) l.2 hm2
  refine ⟨_, l.1, pt, rfl, .inl rfl, w1, ?_⟩
  rw [fr_int]
  refine ⟨_, _, rfl, Sz.mono (Sz.int hm2 m0) (by omega), w1.sz.mono (by decide), ?_⟩
  trivial
  refine ⟨_, l.1, way, rfl, .inl rfl, w2', ?_⟩
  have hne : dot (qs l.1) way ≠ 0 := by grind
  refine ⟨_, _, rfl, hne, s1.1.mono (by omega), s2.2.mono (by omega), ?_⟩
  have zr : Sz 980 (((l.2 : Rat) - dot (qs l.1) pt) / dot (qs l.1) way) := (sz_div hne (s1.1.mono hz) (s2.2.mono hz))
  have z0 : Sz 980 (0 : Rat) := sz_zero _ (by decide)
  have z1 : Sz 2 (1 : Rat) := Sz.int (i := 1) (by decide) (by decide)
  refine ⟨_, _, rfl, zr.mono (by decide), z0.mono (by decide), ?_⟩
  trivial
  have fin : ∀ t : Rat, ((l.2 : Rat) - dot (qs l.1) pt) / dot (qs l.1) way ≤ t → 0 ≤ t → Sz 980 t → sp_10 [fr t, fr 1] b (fun d b1 => sp_84 [ptD pt, ptD way, d] b1 (fun d b => Q d b ∨ Q d none) fun c => E c) fun c => E c := fun t ht ht0 zt => by
    have zt1 : Sz 983 (t + 1) := sz_add' zt z1
    refine ⟨_, _, rfl, zt.mono (by decide), z1.mono (by decide), pt, way, _, rfl, by omega, fun a ha => (PtSz.sz hp a ha).mono (by omega), fun a ha => (PtSz.sz hw a ha).mono (by omega), zt1.mono (by decide), .inl (hQ _ (by simp [along, hl]) ⟨t + 1, by grind, rfl⟩ (LP.beyond_gt hl up ht) ?_)⟩
    obtain ⟨D, d0, d1, d2⟩ := LP.along_sz hp hw zt1.1 zt1.2
    have upz : ∀ {i : Nat}, i < 2 ^ (2 * z + 983 + 1) → i < 2 ^ 1790 := fun h => Nat.lt_of_lt_of_le h (Nat.pow_le_pow_right (by decide) (by omega))
    exact ⟨D, d0, upz d1, fun a ha => by obtain ⟨u, u1, u2⟩ := d2 a ha; exact ⟨u, upz u1, u2⟩⟩
  refine L2.ite2 (fun h => fin 0 (by grind) (by grind) z0) fun h => fin _ (by grind) (by grind) zr
/-- a desk whose covers are well sized -/
structure COk (n : Nat) (L : List Lim) (M h : Nat) : Prop where
  d : DOk n L M h
  n1 : 1 ≤ n
  mm : M < 2 ^ 90
  gc : 2 * n * M * kB (2 * n) M < 2 ^ h
  h4 : h ≤ 380
theorem DOk.sub {n : Nat} {L L' : List Lim} {M h : Nat} (d : DOk n L M h) (hs : ∀ l ∈ L', l ∈ L) (hl : L'.length ≤ L.length) : DOk n L' M h :=
  ⟨fun l hl => d.w l (hs l hl), d.m1, fun l hl => d.lb l (hs l hl), d.n1, Nat.le_trans hl d.ll, d.h9, d.k1, d.k2, d.mh⟩
theorem COk.sub {n : Nat} {L L' : List Lim} {M h : Nat} (c : COk n L M h) (hs : ∀ l ∈ L', l ∈ L) (hl : L'.length ≤ L.length) : COk n L' M h := ⟨c.d.sub hs hl, c.n1, c.mm, c.gc, c.h4⟩
theorem COk.erase {n : Nat} {L : List Lim} {M h : Nat} (c : COk n L M h) (k : Nat) : COk n (L.eraseIdx k) M h := c.sub (fun l hl => List.mem_of_mem_eraseIdx hl) (List.length_eraseIdx_le ..)
theorem COk.gok {n : Nat} {L : List Lim} {M h : Nat} (c : COk n L M h) {l : Lim} (hl : l ∈ L) : GOk n M h M l.1 := ⟨c.n1, c.d.w l hl, fun i hi => (c.d.lb l hl).1 i hi, c.gc, Nat.lt_of_lt_of_le c.mm (Nat.pow_le_pow_right (by decide) (by decide))⟩
theorem COk.goln {n : Nat} {L : List Lim} {M h : Nat} (c : COk n L M h) {l : Lim} (hl : l ∈ L) : GOk n M h M (l.1.map fun i => -i) := ⟨c.n1, by rw [List.length_map]; exact c.d.w l hl, fun i hi => by
  obtain ⟨j, hj, rfl⟩ := List.mem_map.mp hi
  rw [Int.natAbs_neg]
  exact (c.d.lb l hl).1 j hj, c.gc, Nat.lt_of_lt_of_le c.mm (Nat.pow_le_pow_right (by decide) (by decide))⟩
/-- a point of the others beyond a limit -/
structure Byd (n : Nat) (L : List Lim) (l : Lim) (q : List Rat) : Prop where
  len : q.length = n
  keeps : LP.Keeps L q
  gt : (l.2 : Rat) < dot (qs l.1) q
  sz : LP.PtSz 1790 q
structure Shs (n : Nat) (L : List Lim) (k h : Nat) (sh : List Rat) : Prop where
  len : sh.length = L.length
  at0 : sh.getD k 0 = 0
  nn : ∀ p ∈ sh, 0 ≤ p
  ws : ∀ j, j < n → dot sh (LP.colq L j) = (((L.getD k ([], 0)).1.getD j 0 : Int) : Rat)
  bd : dot sh (LP.bq L) ≤ ((L.getD k ([], 0)).2 : Rat)
  sz : ∀ p ∈ sh, LP.Fz h p
def CoverQ (n : Nat) (L : List Lim) (k h : Nat) (Q : D → Ob → Prop) : Prop :=
  (∀ q, Byd n (L.eraseIdx k) (L.getD k ([], 0)) q → Q (.tup [.str "point", ptD q]) none) ∧ (∀ sh, Shs n L k h sh → Need n L k → Q (.tup [.str "shares", ptD sh]) none) ∧ ∀ sh, Clash n L h sh → sh.getD k 0 = 0 → Need n L k → Q (.tup [.str "clash", ptD sh]) none
def sp_86 : FSp := fun ds b Q E => ∃ (n : Nat) (L : List Lim) (d : D), ds = [deskD n L, d] ∧ clD d = true ∧ b = none ∧ L.length ≤ 900 ∧ (∀ k : Nat, d = .int k → k < L.length → ∃ M h, COk n L M h ∧ CoverQ n L k h Q) ∧ ((¬ ∃ k : Nat, d = .int k ∧ k < L.length) → E 4)
theorem len_86 (ds b Q E) (h : sp_86 ds b Q E) : ds.length = 2 := by
  obtain ⟨i, L, _, rfl, _⟩ := h
  rfl
theorem ins_fz {h : Nat} {sh : List Rat} {k : Nat} (h1 : 1 ≤ h) (hs : ∀ p ∈ sh, LP.Fz h p) : ∀ p ∈ ins0 sh k, LP.Fz h p := fun p hp => by
  rcases LP.ins_mem hp with q | q
  · rw [q]
    exact ⟨0, 1, by decide, by simp; exact Nat.pow_pos (by decide), Nat.one_lt_two_pow (by omega), by simp; grind⟩
  · exact hs p q
theorem DOk.h1 {n : Nat} {L : List Lim} {M h : Nat} (d : DOk n L M h) : 1 ≤ h := by
  have a := d.m1
  have b := d.mh
  rcases Nat.eq_zero_or_pos h with e | e
  · subst e; omega
  · exact e
theorem ins_nn {sh : List Rat} {k : Nat} (hs : ∀ p ∈ sh, 0 ≤ p) : ∀ p ∈ ins0 sh k, 0 ≤ p := fun p hp => by
  rcases LP.ins_mem hp with q | q
  · rw [q]; exact Rat.le_refl
  · exact hs p q
theorem meets_86 {G : Gm} (h5 : G.sp 5 = sp_5) (h28 : G.sp 28 = sp_28) (h71 : G.sp 71 = sp_71) (h77 : G.sp 77 = sp_77) (h82 : G.sp 82 = sp_82) (h83 : G.sp 83 = sp_83) (h85 : G.sp 85 = sp_85) (r : G.fr 86 = false) : ∀ ds b Q E, sp_86 ds b Q E → wB G B_86 (kOf (G.fr 86) Q E) (ent N_86.length ds) b := by
  rintro ds b Q E ⟨n, L, d, rfl, hc, rfl, hl, hQ, hE⟩
  unfold B_86 N_86
  trivial
  rw [h5, h28, h71, h77, h82, h83, h85]
  refine ⟨_, d, rfl, hc, fun i e h0 h1 => ?_, fun z => hE fun ⟨k, e, hk⟩ => z ⟨k, e, by omega, by omega⟩⟩
  obtain ⟨k, rfl⟩ : ∃ k : Nat, i = k := ⟨i.toNat, by omega⟩
  subst e
  have hk : k < L.length := by omega
  obtain ⟨M, h, ck, q1, q2, q3⟩ := hQ k rfl hk
  have hmem := LP.getD_mem (d := (([], 0) : Lim)) hk
  have ce := ck.erase k
  have gk := ck.gok hmem
  have h4 := ck.h4
  have n1 := ck.d.n1
  have hel : (L.eraseIdx k).length + 1 = L.length := by rw [List.length_eraseIdx_of_lt hk]; omega
  trivial
  refine ix_t ([], 0) hk ?_
  trivial
  refine ⟨_, L, k, rfl, by omega, ?_⟩
  trivial
  refine ⟨n, L.eraseIdx k, _, rfl, cl_ints _, rfl, fun g' e hg' => ⟨M, h, M, ce.d, ints_inj e ▸ gk, ?_⟩, fun z => absurd ⟨_, rfl, gk.len⟩ z⟩
  have e4 := ints_inj e
  subst e4
  have lsz : ∀ w ∈ (L.getD k ([], 0)).1, w.natAbs < 2 ^ 90 := fun w hw => Nat.lt_of_le_of_lt ((ck.d.lb _ hmem).1 w hw) ck.mm
  have bsz : (L.getD k ([], 0)).2.natAbs < 2 ^ 90 := Nat.lt_of_le_of_lt (ck.d.lb _ hmem).2 ck.mm
  have insW : ∀ sh : List Rat, sh.length = (L.eraseIdx k).length → ∀ j, dot (ins0 sh k) (LP.colq L j) = dot sh (LP.colq (L.eraseIdx k) j) := fun sh hs j => by
    rw [LP.dot_ins k sh _ (by omega) (by rw [colq_len]; omega), LP.colq_erase]
  have insB : ∀ sh : List Rat, sh.length = (L.eraseIdx k).length → dot (ins0 sh k) (LP.bq L) = dot sh (LP.bq (L.eraseIdx k)) := fun sh hs => by
    rw [LP.dot_ins k sh _ (by omega) (by rw [bq_len]; omega), LP.bq_erase]
  refine ⟨fun pt sh p pr => ?_, fun pt way p wy => ?_, fun sh c => ?_⟩
  · have wok : WOk (L.getD k ([], 0)).1 pt := WOk.of p.sz lsz (by decide) (by omega) (by have := p.len; exact Nat.le_trans (show pt.length ≤ 100 by omega) (by decide))
    trivial
    refine eq_str (by decide +kernel) (by decide +kernel) ?_
    rw [decide_eq_false (by decide +kernel)]
    trivial
    refine eq_str (by decide +kernel) (by decide +kernel) ?_
    rw [decide_eq_false (by decide +kernel)]
    trivial
    refine ⟨_, _, pt, rfl, .inl rfl, wok, ?_⟩
    rw [fr_int]
    refine ⟨_, _, rfl, Sz.mono (Sz.int bsz (by decide)) (by decide), wok.sz.mono (by decide), ?_⟩
    trivial
    refine L2.ite2 (fun hb => .inl (q1 pt ⟨p.len, p.keeps, hb, ?_⟩)) fun hb => ?_
    · obtain ⟨D, d0, d1, d2⟩ := p.sz
      have up : ∀ {i : Nat}, i < 2 ^ (h + 1) → i < 2 ^ 1790 := fun hh => Nat.lt_of_lt_of_le hh (Nat.pow_le_pow_right (by decide) (by omega))
      exact ⟨D, d0, up d1, fun a ha => by obtain ⟨u, u1, u2⟩ := d2 a ha; exact ⟨u, up u1, u2⟩⟩
    · have plen := pr.len
      refine ⟨sh, k, rfl, by omega, .inl (q2 _ ⟨by rw [LP.ins_len (by omega)]; omega, LP.ins_at (by omega), ins_nn pr.nn, fun j hj => by rw [insW sh plen]; exact pr.ws j hj, by rw [insB sh plen, pr.bd]; grind, ins_fz ck.d.h1 pr.sz⟩ fun q hq kq => ?_)⟩
      have := LP.prices_le ce.d.w gk.len pr.len pr.nn pr.ws kq
      rw [pr.bd] at this
      grind
  · trivial
    refine eq_str (by decide +kernel) (by decide +kernel) ?_
    rw [decide_eq_false (by decide +kernel)]
    trivial
    refine eq_str (by decide +kernel) (by decide +kernel) ?_
    rw [decide_eq_true rfl]
    trivial
    have plen := p.len
    have wlen := wy.len
    refine ⟨_, pt, way, h + 1, 90, rfl, by omega, by omega, p.sz, wy.sz, lsz, bsz, by decide, by decide, by omega, by omega, wy.up, fun q ql ⟨t, t1, eq⟩ qg qz => .inl (q1 q ⟨by omega, ?_, qg, qz⟩)⟩
    rw [eq]
    exact LP.along_keeps (by omega) (by grind) p.keeps wy.keeps
  · trivial
    refine eq_str (by decide +kernel) (by decide +kernel) ?_
    rw [decide_eq_true rfl]
    trivial
    have slen := c.len
    exact ⟨sh, k, rfl, by omega, .inl (q3 _ ⟨by rw [LP.ins_len (by omega)]; omega, ins_nn c.nn, fun j hj => by rw [insW sh slen]; exact c.ws j hj, by rw [insB sh slen]; exact c.bd, ins_fz ck.d.h1 c.sz⟩ (LP.ins_at (by omega)) fun q _ kq => (c.no ce.d.w kq).elim)⟩
theorem ne_str {s t : Str} {Q : D → Prop} (h1 : PyData.strOk s = true) (h2 : PyData.strOk t = true) (q : Q (.bl (!decide (s = t)))) : w2 .ne (.str s) (.str t) Q :=
  q_ne rfl rfl h1 h2 fun b hb => by
    have : b = decide (s = t) := by
      rw [Bool.eq_iff_iff, hb, decide_eq_true_eq]
      exact ⟨fun e => by cases e; rfl, fun e => by rw [e]⟩
    rw [this]; exact q
def sp_87 : FSp := fun ds b Q E => ∃ (n : Nat) (L : List Lim) (k : Nat), ds = [deskD n L, .int k] ∧ b = none ∧ L.length ≤ 900 ∧ k < L.length ∧ (∃ M h, COk n L M h) ∧ ∀ t : Bool, (t = true ↔ Need n L k) → Q (.bl t) none
theorem len_87 (ds b Q E) (h : sp_87 ds b Q E) : ds.length = 2 := by
  obtain ⟨i, L, _, rfl, _⟩ := h
  rfl
theorem Byd.not {n : Nat} {L : List Lim} {k : Nat} {q : List Rat} (o : Byd n (L.eraseIdx k) (L.getD k ([], 0)) q) : ¬ Need n L k := fun z => by
  have := z q o.len o.keeps
  have := o.gt
  grind
theorem meets_87 {G : Gm} (h86 : G.sp 86 = sp_86) (r : G.fr 87 = false) : ∀ ds b Q E, sp_87 ds b Q E → wB G B_87 (kOf (G.fr 87) Q E) (ent N_87.length ds) b := by
  rintro ds b Q E ⟨n, L, k, rfl, rfl, hl, hk, ⟨M, h, ck⟩, hQ⟩
  unfold B_87 N_87
  trivial
  rw [h86]
  refine ⟨n, L, _, rfl, rfl, rfl, hl, fun k' e hk' => ⟨M, h, ck, fun q o => ?_, fun sh s nd => ?_, fun sh c _ nd => ?_⟩, fun z => absurd ⟨k, rfl, hk⟩ z⟩
  all_goals have ek : k' = k := by cases e; omega
  all_goals subst ek
  all_goals trivial
  · refine ne_same rfl (by decide +kernel) (.inl (hQ false ?_))
    exact ⟨fun z => Bool.noConfusion z, fun z => absurd z o.not⟩
  · refine ne_str (by decide +kernel) (by decide +kernel) ?_
    rw [decide_eq_false (by decide +kernel)]
    exact .inl (hQ _ ⟨fun _ => nd, fun _ => rfl⟩)
  · refine ne_str (by decide +kernel) (by decide +kernel) ?_
    rw [decide_eq_false (by decide +kernel)]
    exact .inl (hQ _ ⟨fun _ => nd, fun _ => rfl⟩)
def sp_93 : FSp := fun ds b Q E => ∃ (n : Nat) (L : List Lim), ds = [deskD n L] ∧ b = none ∧ L.length ≤ 900 ∧ (∃ M h, COk n L M h) ∧ Q (deskD n (leanR n L 0)) none
theorem len_93 (ds b Q E) (h : sp_93 ds b Q E) : ds.length = 1 := by
  obtain ⟨i, L, rfl, _⟩ := h
  rfl
theorem meets_93 {G : Gm} (h82 : G.sp 82 = sp_82) (h87 : G.sp 87 = sp_87) (r : G.fr 93 = false) : ∀ ds b Q E, sp_93 ds b Q E → wB G B_93 (kOf (G.fr 93) Q E) (ent N_93.length ds) b := by
  rintro ds b Q E ⟨n, L, rfl, rfl, hl, ⟨M, h, ck⟩, hQ⟩
  unfold B_93 N_93
  trivial
  rw [h82, h87]
  refine ⟨fun m δ b' => ∃ (L' : List Lim) (p : Nat), δ = [.vl (deskD n L), .vl (deskD n L'), .vl (.int p)] ∧ b' = none ∧ m = L'.length - p ∧ leanR n L' p = leanR n L 0 ∧ COk n L' M h ∧ L'.length ≤ 900, ⟨_, L, 0, rfl, rfl, rfl, rfl, ck, hl⟩, ?_⟩
  rintro m δ b' ⟨L', p, rfl, rfl, rfl, he, ck', hl'⟩
  trivial
  refine L2.ite2 (fun hp => ?_) fun hp => ?_
  · have hp' : p < L'.length := by omega
    refine ⟨n, L', p, rfl, rfl, hl', hp', ⟨M, h, ck'⟩, fun t ht => ?_⟩
    trivial
    refine iteb (fun h1 => ?_) fun h1 => ?_
    · have nd := ht.mp h1
      have e1 := List.length_eraseIdx_of_lt hp'
      exact ⟨_, L', p, rfl, by omega, (L'.eraseIdx p).length - p, by omega, L'.eraseIdx p, p, rfl, rfl, rfl, by rw [← LP.leanR_need hp' nd]; exact he, ck'.erase p, by omega⟩
    · have nd : ¬ Need n L' p := fun z => by rw [ht.mpr z] at h1; cases h1
      exact ⟨L'.length - (p + 1), by omega, L', p + 1, rfl, rfl, by rw [← LP.leanR_not hp' nd]; exact he, ck', hl'⟩
  · rw [LP.leanR_end (by omega)] at he
    rw [he]
    exact .inl hQ
end LK

namespace LK
open PySem
local macro_rules | `(tactic| trivial) => `(tactic| (try simp only [ent, List.length, List.map, List.replicate, List.cons_append, List.nil_append, Nat.sub_self, Nat.add_one_sub_one, Nat.reduceAdd, Nat.reduceSub]) <;> try simp only [wB, wS, wE, wEs, wO, wC, wSrc, theB, fld, bd_rows, bd_goal, bd_heads, bd_tails, e_rowlst, true_and, e_limT0, e_limT1, e_limL0, e_limL1, e_fr0, e_fr1, e_dk0, e_dk1, e_ptlen, e_ptlst, len_map, Int.toNat_natCast, e_slt, e_tcat, e_neg, e_abs, e_lent, e_lenl, e_lens, e_lenS, e_tupt, e_tupl, e_lstt, e_lstl, e_inti, e_intb, e_str, e_isInt, e_isBool, e_isTup, e_isLst, e_isStr, e_isN, e_notN, e_add, e_sub, e_mul, e_fdiv, e_mod, e_pow, e_lt, e_le, e_gt, e_ge, e_eqi, e_nei, e_cat, e_tcat, e_ixl, e_ixs, e_ixt0, e_ixt1, e_ixt2, e_max, e_min, e_test, e_seql, e_seqt, e_seqs, e_rng, e_rng2, e_zipl, e_zipt, e_ziptt, e_sll, e_slt, e_sls, e_nm, e_pr, gt, st, ent, List.map, List.replicate, List.length, List.cons_append, List.nil_append, kOf, Nat.sub_self, Nat.add_one_sub_one, Nat.reduceAdd, Nat.reduceSub, reduceCtorEq, decide_eq_true_eq, Bool.not_eq_true', decide_eq_false_iff_not, if_true, if_false, Bool.false_eq_true, ite_true, ite_false])
open LP (dot qs kB zs TopV ins0 along Need leanR)
/-- desk_of makes it, and its covers are well sized -/
structure Dsk (n : Nat) (L : List Lim) : Prop where
  v : Valid n L
  c : ∃ M h, COk n L M h
theorem Valid.sub {n : Nat} {L L' : List Lim} (v : Valid n L) (hs : ∀ l ∈ L', l ∈ L) (hl : L'.length ≤ L.length) : Valid n L' :=
  ⟨v.1, v.2.1, Nat.le_trans hl v.2.2.1, fun l h => v.2.2.2.1 l (hs l h), fun l h => v.2.2.2.2 l (hs l h)⟩
theorem Dsk.sub {n : Nat} {L L' : List Lim} (d : Dsk n L) (hs : ∀ l ∈ L', l ∈ L) (hl : L'.length ≤ L.length) : Dsk n L' :=
  ⟨d.v.sub hs hl, by obtain ⟨M, h, c⟩ := d.c; exact ⟨M, h, c.sub hs hl⟩⟩
theorem Dsk.erase {n : Nat} {L : List Lim} (d : Dsk n L) (k : Nat) : Dsk n (L.eraseIdx k) := d.sub (fun l hl => List.mem_of_mem_eraseIdx hl) (List.length_eraseIdx_le ..)
theorem sml_lt {i : Int} (h : sml i = true) : i.natAbs < 2 ^ 40 := by
  unfold sml at h
  rw [Bool.and_eq_true, decide_eq_true_eq, decide_eq_true_eq] at h
  omega
theorem Valid.lim {n : Nat} {L : List Lim} (v : Valid n L) : ∀ l ∈ L, (∀ a ∈ l.1, a.natAbs < 2 ^ 40) ∧ l.2.natAbs < 2 ^ 40 := fun l hl =>
  ⟨fun a ha => sml_lt (List.all_eq_true.mp (v.2.2.2.2 l hl).1 a ha), sml_lt (v.2.2.2.2 l hl).2⟩
theorem Valid.lok {n : Nat} {L : List Lim} (v : Valid n L) {pt : List Rat} (hl : pt.length = n) {z : Nat} (hz : z ≤ 1790) (hp : LP.PtSz z pt) : LOk L pt := fun l hl' => by
  have hd := v.lim l hl'
  have := v.2.1
  exact ⟨WOk.of hp hd.1 (by decide) hz (Nat.le_trans (show pt.length ≤ 4 by omega) (by decide)), Nat.lt_of_lt_of_le hd.2 (Nat.pow_le_pow_right (by decide) (by decide))⟩
/-- bounds that a desk of so many kinds may have here -/
def Mk (n M : Nat) : Prop := (1 ≤ n ∧ n ≤ 3 ∧ M ≤ 60) ∨ (n = 4 ∧ M ≤ 20) ∨ (1 ≤ n ∧ n ≤ 2 ∧ M ≤ 999999999999)
theorem LimB.mono {M M' : Nat} {L : List Lim} (h : LP.LimB M L) (hm : M ≤ M') : LP.LimB M' L := fun l hl => ⟨fun a ha => Nat.le_trans ((h l hl).1 a ha) hm, Nat.le_trans (h l hl).2 hm⟩
theorem Mk.cok {n M : Nat} {L : List Lim} (m : Mk n M) (w : LP.Wf n L) (lb : LP.LimB M L) (hl : L.length ≤ 900) : ∃ M h, COk n L M h := by
  rcases m with ⟨h1, h2, h3⟩ | ⟨rfl, h3⟩ | ⟨h1, h2, h3⟩
  · refine ⟨60, 110, ?_⟩
    have lb' := LimB.mono lb h3
    have : n = 1 ∨ n = 2 ∨ n = 3 := by omega
    rcases this with rfl | rfl | rfl <;> exact ⟨⟨w, by decide, lb', by decide, hl, by decide, by decide +kernel, by decide +kernel, by decide⟩, by decide, by decide +kernel, by decide +kernel, by decide⟩
  · exact ⟨20, 110, ⟨w, by decide, LimB.mono lb h3, by decide, hl, by decide, by decide +kernel, by decide +kernel, by decide⟩, by decide, by decide +kernel, by decide +kernel, by decide⟩
  · refine ⟨999999999999, 310, ?_⟩
    have lb' := LimB.mono lb h3
    have : n = 1 ∨ n = 2 := by omega
    rcases this with rfl | rfl <;> exact ⟨⟨w, by decide, lb', by decide, hl, by decide, by decide +kernel, by decide +kernel, by decide +kernel⟩, by decide, by decide +kernel, by decide +kernel, by decide⟩
theorem Dsk.of {n M : Nat} {L : List Lim} (m : Mk n M) (w : LP.Wf n L) (lb : LP.LimB M L) (hl : L.length ≤ 10) : Dsk n L := by
  have sm : ∀ i : Int, i.natAbs ≤ M → sml i = true := fun i hi => by
    unfold sml
    unfold Mk at m
    rw [Bool.and_eq_true, decide_eq_true_eq, decide_eq_true_eq]
    omega
  refine ⟨⟨by unfold Mk at m; omega, by unfold Mk at m; omega, hl, w, fun l h => ⟨?_, sm _ (lb l h).2⟩⟩, m.cok w lb (by omega)⟩
  rw [List.all_eq_true]
  exact fun i hi => sm _ ((lb l h).1 i hi)
theorem DD.mk {n : Nat} {L : List Lim} (d : DD n L) : ∃ M, LP.LimB M L ∧ ((1 ≤ n ∧ n ≤ 3 ∧ L.length ≤ 5 ∧ M = 9) ∨ (n = 4 ∧ L.length = 10 ∧ M = 2) ∨ (1 ≤ n ∧ n ≤ 2 ∧ L.length ≤ 3 ∧ M = 999999999999)) := d.2
/-- a limit that is made of others, or one of them -/
structure Fur (n : Nat) (L : List Lim) (l : Lim) : Prop where
  len : l.1.length = n
  s1 : ∀ a ∈ l.1, a.natAbs < 1000000000000
  s2 : l.2.natAbs < 1000000000000
  m1 : ∀ M, LP.LimB M L → ∀ a ∈ l.1, a.natAbs ≤ 4 * M
  m2 : ∀ M, LP.LimB M L → l.2.natAbs ≤ 4 * M + 3
theorem DD.more {n : Nat} {L L1 : List Lim} (d : DD n L) (hs : ∀ l ∈ L1, l ∈ L) (hl : L1.length ≤ L.length) {l : Lim} (f : Fur n L1 l) (h10 : L1.length < 10) : Dsk n (L1 ++ [l]) := by
  obtain ⟨M, lb, h⟩ := d.mk
  have lb1 : LP.LimB M L1 := fun l hl => lb l (hs l hl)
  have w : LP.Wf n (L1 ++ [l]) := fun x hx => by
    rcases List.mem_append.mp hx with q | q
    · exact d.1 x (hs x q)
    · simp at q; subst q; exact f.len
  have a1 := f.m1 M lb1
  have a2 := f.m2 M lb1
  have ll : (L1 ++ [l]).length ≤ 10 := by simp; omega
  have lx : ∀ M', M ≤ M' → (∀ a ∈ l.1, a.natAbs ≤ M') → l.2.natAbs ≤ M' → LP.LimB M' (L1 ++ [l]) := fun M' h1 h2 h3 => LimB.app (LimB.mono lb1 h1) h2 h3
  rcases h with ⟨h1, h2, h3, rfl⟩ | ⟨rfl, h3, rfl⟩ | ⟨h1, h2, h3, rfl⟩
  · exact Dsk.of (M := 60) (.inl ⟨h1, h2, by decide⟩) w (lx 60 (by decide) (fun a ha => by have := a1 a ha; omega) (by omega)) ll
  · exact Dsk.of (M := 20) (.inr (.inl ⟨rfl, by decide⟩)) w (lx 20 (by decide) (fun a ha => by have := a1 a ha; omega) (by omega)) ll
  · exact Dsk.of (M := 999999999999) (.inr (.inr ⟨h1, h2, by decide⟩)) w (lx 999999999999 (by decide) (fun a ha => by have := f.s1 a ha; omega) (by have := f.s2; omega)) ll
theorem DD.dsk {n : Nat} {L : List Lim} (d : DD n L) : Dsk n L := by
  obtain ⟨M, lb, h⟩ := d.mk
  have hl := d.len
  rcases h with ⟨h1, h2, h3, rfl⟩ | ⟨rfl, h3, rfl⟩ | ⟨h1, h2, h3, rfl⟩
  · exact Dsk.of (M := 9) (.inl ⟨h1, h2, by decide⟩) d.1 lb (by omega)
  · exact Dsk.of (M := 2) (.inr (.inl ⟨rfl, by decide⟩)) d.1 lb (by omega)
  · exact Dsk.of (M := 999999999999) (.inr (.inr ⟨h1, h2, by decide⟩)) d.1 lb (by omega)
def sp_92 : FSp := fun ds b Q E => ∃ (ns : List Int) (n : Nat) (L : List Lim), ds = [.scr ns, .tup [.int n, .lst (L.map limL)]] ∧ n ≤ 1000 ∧ L.length ≤ 1000 ∧ LP.Wf n L ∧ Q (.lst (L.map limL)) b ∧ ∀ l, Fur n L l → L.length ≠ 10 → Q (.lst ((L ++ [l]).map limL)) b
theorem len_92 (ds b Q E) (h : sp_92 ds b Q E) : ds.length = 2 := by
  obtain ⟨i, _, L, rfl, _⟩ := h
  rfl
theorem mod_ix {α : Type} {f : α → D} {xs : List α} {c : Int} {Q : D → Prop} (h : 0 < xs.length) (q : ∀ x ∈ xs, Q (f x)) : ∃ z, L2.atI (xs.map f) (c.fmod (xs.length : Int)) = some z ∧ Q z := by
  obtain ⟨h0, h1⟩ := mod_lt' (c := c) (m := (xs.length : Int)) (by omega)
  obtain ⟨k, hk⟩ : ∃ k : Nat, c.fmod (xs.length : Int) = k := ⟨(c.fmod (xs.length : Int)).toNat, by omega⟩
  rw [hk] at h1 ⊢
  have hk' : k < xs.length := by omega
  exact ⟨_, atI_mapD xs[k] hk', q _ (LP.getD_mem hk')⟩
theorem sum_row {n : Nat} {l1 l2 : Lim} {M : Nat} (h1 : ∀ a ∈ l1.1, a.natAbs ≤ M) (h2 : ∀ a ∈ l2.1, a.natAbs ≤ M) : ∀ a ∈ (List.range n).map (fun k => l1.1.getD k 0 + l2.1.getD k 0), a.natAbs ≤ 2 * M := fun a ha => by
  obtain ⟨k, _, rfl⟩ := List.mem_map.mp ha
  have g : ∀ xs : List Int, (∀ a ∈ xs, a.natAbs ≤ M) → (xs.getD k 0).natAbs ≤ M := fun xs h => by
    by_cases hj : k < xs.length
    · exact h _ (LP.getD_mem hj)
    · simp [List.getD, hj]
  have a1 := g l1.1 h1
  have a2 := g l2.1 h2
  omega
theorem meets_92 {G : Gm} (h1 : G.sp 1 = sp_1) (h17 : G.sp 17 = sp_17) (r17 : G.fr 17 = true) (r : G.fr 92 = false) : ∀ ds b Q E, sp_92 ds b Q E → wB G B_92 (kOf (G.fr 92) Q E) (ent N_92.length ds) b := by
  rintro ds b Q E ⟨ns, n, L, rfl, hn, hl, w, hQ, hF⟩
  unfold B_92 N_92
  trivial
  rw [h1, h17]
  refine ⟨L, rfl, by omega, cmp_lims L, ?_⟩
  trivial
  have e0 : (L.map limL).isEmpty = L.isEmpty := by cases L <;> rfl
  rw [e0]
  refine iteb (fun _ => .inl hQ) fun hne => ?_
  have hpos : 0 < L.length := by
    cases L with
    | nil => cases hne
    | cons _ _ => simp
  refine L2.ite2 (fun _ => .inl hQ) fun h10 => ?_
  refine cell_ok (.inl rfl) (by decide) fun c1 => ⟨by decide, ?_⟩
  trivial
  refine L2.ite2 (fun _ => .inl hQ) fun _ => ?_
  refine cell_ok (.inl rfl) (by decide) fun c2 => ⟨by omega, mod_ix hpos fun l1 hl1 => ?_⟩
  refine cell_ok (.inl rfl) (by decide) fun c3 => ⟨by omega, mod_ix hpos fun l2 hl2 => ?_⟩
  trivial
  refine ⟨by omega, by simp [rngD]; omega, wmap_range (fun k => .int (l1.1.getD k 0 + l2.1.getD k 0)) (fun k hk R hR => ?_) ?_⟩
  · trivial
    refine ix_l 0 (by rw [w l1 hl1]; exact hk) ?_
    refine ix_l 0 (by rw [w l2 hl2]; exact hk) ?_
    trivial
    exact hR
  refine cell_ok (.inl rfl) (by decide) fun c4 => ⟨by decide, ?_⟩
  trivial
  refine cell_ok (.inl rfl) (by decide) fun c5 => ⟨by decide, ?_⟩
  trivial
  obtain ⟨m0, m1⟩ := mod_lt' (c := c4) (m := 4) (by decide)
  -- the new limit, whichever
  have fin : ∀ l : Lim, l.1.length = n → (∀ M, LP.LimB M L → ∀ a ∈ l.1, a.natAbs ≤ 4 * M) → (∀ M, LP.LimB M L → l.2.natAbs ≤ 4 * M + 3) → ∀ s5 : Sl, (l.1.map D.int).length + 1 ≤ 1000000 ∧ wfor (fun x δ b R => binds (.nm 7) x δ fun δ' => wB G (.cons (.ite (.op2 .ge (.op1 .abs (.var 7)) (.op2 .pow (.cst (.int 10)) (.cst (.int 12)))) (.cons (.frz 2) (.cons (.ret (.var 2)) .nil)) .nil) .nil) { (kOf (G.fr 92) Q E) with nx := R } δ' b) (l.1.map D.int ++ [.int l.2]) [.vl (.scr ns), .vl (.tup [.int n, .lst (L.map limL)]), .ow (L.map limL), .vl (limL l1), .vl (limL l2), s5, .vl (limL l), .no, .no] b fun δ b => wB G (.cons (.app 2 (.var 6)) (.cons (.frz 2) (.cons (.ret (.var 2)) .nil))) (kOf (G.fr 92) Q E) δ b := fun l ll lm lm2 s5 => by
    refine ⟨by rw [List.length_map, ll]; omega, ?_⟩
    rw [show l.1.map D.int ++ [.int l.2] = (l.1 ++ [l.2]).map D.int from by simp]
    refine wfor_map D.int (fun pre δ b' => (∃ s7, δ = [.vl (.scr ns), .vl (.tup [.int n, .lst (L.map limL)]), .ow (L.map limL), .vl (limL l1), .vl (limL l2), s5, .vl (limL l), s7, .no]) ∧ b' = b ∧ ∀ a ∈ pre, a.natAbs < 1000000000000) ⟨⟨_, rfl⟩, rfl, by simp⟩ ?_ ?_
    · rintro pre x post e δ b' ⟨⟨s7, rfl⟩, rfl, hp⟩ R hR
      trivial
      refine ⟨⟨by decide, by decide, by decide⟩, ?_⟩
      refine L2.ite2 (fun _ => .inl hQ) fun hx => hR _ _ ⟨⟨_, rfl⟩, rfl, fun a ha => ?_⟩
      rcases List.mem_append.mp ha with q | q
      · exact hp a q
      · simp at q
        subst q
        have hx' : ¬ (1000000000000 : Int) ≤ (a.natAbs : Int) := hx
        omega
    · rintro δ b' ⟨⟨s7, rfl⟩, rfl, hp⟩
      trivial
      refine ⟨by rw [List.length_map]; omega, .inl ?_⟩
      have := hF l ⟨ll, fun a ha => hp a (by simp [ha]), hp _ (by simp), lm, lm2⟩ (by omega)
      rw [List.map_append] at this
      exact this
  refine L2.ite2 (fun _ => ?_) fun _ => ?_
  · exact fin (l1.1, l1.2) (w l1 hl1) (fun M lb a ha => by have := (lb l1 hl1).1 a ha; omega) (fun M lb => by have := (lb l1 hl1).2; show l1.2.natAbs ≤ _; omega) _
  · have e : (List.range n).map (fun k => D.int (l1.1.getD k 0 + l2.1.getD k 0)) = ((List.range n).map (fun k => l1.1.getD k 0 + l2.1.getD k 0)).map D.int := by rw [List.map_map]; rfl
    rw [e]
    exact fin ((List.range n).map (fun k => l1.1.getD k 0 + l2.1.getD k 0), l1.2 + l2.2 + c4.fmod 4) (by simp) (fun M lb a ha => by have := sum_row (lb l1 hl1).1 (lb l2 hl2).1 a ha; omega) (fun M lb => by have := (lb l1 hl1).2; have := (lb l2 hl2).2; show (l1.2 + l2.2 + c4.fmod 4).natAbs ≤ _; omega) _
theorem mk_desk {n : Nat} {L : List Lim} (v : Valid n L) {Q : D → Ob → Prop} {b : Ob} {E : Nat → Prop} (h : Q (deskD n L) b) : sp_23 [.int n, .lst (L.map limL)] b Q E :=
  ⟨_, _, rfl, rfl, cl_lims L, fun n' L' e1 e2 hv => by
    cases e1
    have e3 := limL_inj (D.lst.inj e2)
    subst e3
    exact h, fun h => absurd ⟨n, L, rfl, rfl, v⟩ h⟩
theorem cut_lims (L : List Lim) (k : Nat) : cutL (L.map limL) none (some (k : Int)) ++ cutL (L.map limL) (some ((k : Int) + 1)) none = (L.eraseIdx k).map limL := by
  rw [cut_to _ (k := k) rfl, cut_from _ (k := k + 1) (by omega), erase_cut, ← LP.map_erase]
theorem cut_lims_le (L : List Lim) (k : Nat) (h : L.length ≤ 1000) : (cutL (L.map limL) none (some (k : Int))).length + (cutL (L.map limL) (some ((k : Int) + 1)) none).length ≤ 1000000 := by
  have l1 := cut_len (L.map limL) none (some (k : Int))
  have l2 := cut_len (L.map limL) (some ((k : Int) + 1)) none
  rw [List.length_map] at l1 l2
  omega
end LK

namespace LK
open PySem
local macro_rules | `(tactic| trivial) => `(tactic| (try simp only [ent, List.length, List.map, List.replicate, List.cons_append, List.nil_append, Nat.sub_self, Nat.add_one_sub_one, Nat.reduceAdd, Nat.reduceSub]) <;> try simp only [wB, wS, wE, wEs, wO, wC, wSrc, theB, fld, bd_rows, bd_goal, bd_heads, bd_tails, e_rowlst, true_and, e_limT0, e_limT1, e_limL0, e_limL1, e_fr0, e_fr1, e_dk0, e_dk1, e_ptlen, e_ptlst, len_map, Int.toNat_natCast, e_slt, e_tcat, e_neg, e_abs, e_lent, e_lenl, e_lens, e_lenS, e_tupt, e_tupl, e_lstt, e_lstl, e_inti, e_intb, e_str, e_isInt, e_isBool, e_isTup, e_isLst, e_isStr, e_isN, e_notN, e_add, e_sub, e_mul, e_fdiv, e_mod, e_pow, e_lt, e_le, e_gt, e_ge, e_eqi, e_nei, e_cat, e_tcat, e_ixl, e_ixs, e_ixt0, e_ixt1, e_ixt2, e_max, e_min, e_test, e_seql, e_seqt, e_seqs, e_rng, e_rng2, e_zipl, e_zipt, e_ziptt, e_sll, e_slt, e_sls, e_nm, e_pr, gt, st, ent, List.map, List.replicate, List.length, List.cons_append, List.nil_append, kOf, Nat.sub_self, Nat.add_one_sub_one, Nat.reduceAdd, Nat.reduceSub, reduceCtorEq, decide_eq_true_eq, Bool.not_eq_true', decide_eq_false_iff_not, if_true, if_false, Bool.false_eq_true, ite_true, ite_false])
open LP (dot qs kB zs TopV ins0 along Need leanR)
def sp_94 : FSp := fun ds b Q E => ∃ (n : Nat) (L : List Lim) (k : Nat) (q : List Rat), ds = [.lst (L.map limL), .int k, .int n, .tup [.str "point", ptD q]] ∧ k < L.length ∧ Valid n L ∧ Byd n (L.eraseIdx k) (L.getD k ([], 0)) q ∧ Q (.bl true) b
theorem len_94 (ds b Q E) (h : sp_94 ds b Q E) : ds.length = 4 := by
  obtain ⟨i, _, _, L, rfl, _⟩ := h
  rfl
theorem meets_94 {G : Gm} (h60 : G.sp 60 = sp_60) (h64 : G.sp 64 = sp_64) (r : G.fr 94 = false) : ∀ ds b Q E, sp_94 ds b Q E → wB G B_94 (kOf (G.fr 94) Q E) (ent N_94.length ds) b := by
  rintro ds b Q E ⟨n, L, k, q, rfl, hk, v, o, hQ⟩
  unfold B_94 N_94
  trivial
  rw [h60, h64]
  have hn := v.2.1
  have hl := v.2.2.1
  refine ne_same rfl (by decide +kernel) ?_
  trivial
  refine ⟨q, n, rfl, ?_⟩
  rw [decide_eq_true (by rw [o.len])]
  trivial
  refine ⟨cut_lims_le L k (by omega), ?_⟩
  rw [cut_lims]
  have ve : Valid n (L.eraseIdx k) := v.sub (fun l hl => List.mem_of_mem_eraseIdx hl) (List.length_eraseIdx_le ..)
  refine ⟨n, _, q, rfl, ve.2.2.2.1, o.len, by omega, ve.lok o.len (by decide) o.sz, fun t ht => ?_⟩
  rw [ht.mpr o.keeps]
  trivial
  refine ix_l ([], 0) hk ?_
  have hm := LP.getD_mem (d := (([], 0) : Lim)) hk
  refine ⟨n, [L.getD k ([], 0)], q, rfl, fun l h => by simp at h; subst h; exact v.2.2.2.1 _ hm, o.len, by omega, fun l h => by simp at h; subst h; exact v.lok o.len (by decide) o.sz _ hm, fun t ht => ?_⟩
  have : t = false := by
    cases t with
    | false => rfl
    | true =>
      have := ht.mp rfl _ (List.mem_singleton.mpr rfl)
      have := o.gt
      grind
  rw [this]
  exact .inl hQ
def sp_95 : FSp := fun ds b Q E => ∃ ns, ds = [.scr ns] ∧ b = none ∧ Q (.bl true) none
theorem len_95 (ds b Q E) (h : sp_95 ds b Q E) : ds.length = 1 := by
  obtain ⟨i, rfl, _⟩ := h
  rfl
theorem law_95 (ns : List Int) (h : ns.length ≤ 63) : sp_95 [.scr ns] none (fun d _ => d = .bl true) fun _ => False := ⟨ns, rfl, rfl, rfl⟩
theorem meets_95 {G : Gm} (h16 : G.sp 16 = sp_16) (h17 : G.sp 17 = sp_17) (h23 : G.sp 23 = sp_23) (h86 : G.sp 86 = sp_86) (h87 : G.sp 87 = sp_87) (h92 : G.sp 92 = sp_92) (h93 : G.sp 93 = sp_93) (h94 : G.sp 94 = sp_94) (r17 : G.fr 17 = true) (r : G.fr 95 = false) : ∀ ds b Q E, sp_95 ds b Q E → wB G B_95 (kOf (G.fr 95) Q E) (ent N_95.length ds) b := by
  rintro ds b Q E ⟨ns, rfl, rfl, hQ⟩
  refine wB_split 4 ?_
  have tail : ∀ (n : Nat) (L : List Lim) (s1 : D), Dsk n L → wB G (dp 4 B_95) (kOf (G.fr 95) Q E) [.vl (.scr ns), .vl s1, .vl (.int n), .vl (.lst (L.map limL)), .no, .no, .no, .no] none := fun n L s1 dk => by
    simp only [B_95, dp]
    trivial
    rw [h17, h23, h86, h87, h93, h94]
    have hl := dk.v.2.2.1
    refine ⟨L, rfl, by omega, mk_desk dk.v ⟨n, L, rfl, rfl, by omega, dk.c, ?_⟩⟩
    trivial
    refine ⟨fun m δ b' => ∃ (L' : List Lim) (p : Nat), δ = [.vl (.scr ns), .vl s1, .vl (.int n), .vl (.lst (L.map limL)), .vl (deskD n (leanR n L 0)), .vl (.lst (L'.map limL)), .vl (.int p), .no] ∧ b' = none ∧ m = L'.length - p ∧ leanR n L' p = leanR n L 0 ∧ Dsk n L' ∧ (∀ i, i < p → ¬ Need n L' i) ∧ p ≤ L'.length, ⟨_, L, 0, rfl, rfl, rfl, rfl, dk, by omega, by omega⟩, ?_⟩
    rintro m δ b' ⟨L', p, rfl, rfl, rfl, he, dk', hne, hpl⟩
    have hl' := dk'.v.2.2.1
    trivial
    refine L2.ite2 (fun hp => ?_) fun hp => ?_
    · have hp' : p < L'.length := by omega
      refine ⟨L', rfl, by omega, mk_desk dk'.v ⟨n, L', p, rfl, rfl, by omega, hp', dk'.c, fun t ht => ?_⟩⟩
      trivial
      refine iteb (fun h1 => ?_) fun h1 => ?_
      · have nd := ht.mp h1
        have e1 := List.length_eraseIdx_of_lt hp'
        refine ⟨cut_lims_le L' p (by omega), ?_⟩
        rw [cut_lims]
        exact ⟨(L'.eraseIdx p).length - p, by omega, L'.eraseIdx p, p, rfl, rfl, by rw [← LP.leanR_need hp' nd]; exact he, dk'.erase p, fun i hi => LP.need_erase hi (hne i hi), by omega⟩
      · have nd : ¬ Need n L' p := fun z => by rw [ht.mpr z] at h1; cases h1
        refine ⟨L'.length - (p + 1), by omega, L', p + 1, rfl, ?_⟩
        simp only [true_and]
        refine ⟨by rw [← LP.leanR_not hp' nd]; exact he, dk', fun i hi => ?_, by omega⟩
        by_cases e : i = p
        · rw [e]; exact nd
        · exact hne i (by omega)
    · rw [LP.leanR_end (by omega)] at he
      rw [← he]
      refine ⟨L', rfl, by omega, mk_desk dk'.v ?_⟩
      refine ne_same (pl_desk n L') (cmp_desk n L' 16) ?_
      trivial
      refine ⟨by omega, wfor_range (fun k δ b' => ∃ s7 : Sl, δ = [.vl (.scr ns), .vl s1, .vl (.int n), .vl (.lst (L.map limL)), .vl (deskD n L'), .vl (.lst (L'.map limL)), .vl (.int p), s7] ∧ b' = none) ⟨_, rfl, rfl⟩ ?_ ?_⟩
      · rintro k hk δ b' ⟨s7, rfl, rfl⟩ R hR
        trivial
        obtain ⟨M, h, ck⟩ := dk'.c
        have nn := hne k (by omega)
        refine ⟨n, L', _, rfl, rfl, rfl, by omega, fun k' e hk' => ?_, fun z => absurd ⟨k, rfl, hk⟩ z⟩
        have ek : k' = k := by cases e; omega
        subst ek
        refine ⟨M, h, ck, fun q o => ?_, fun sh _ nd => absurd nd nn, fun sh _ _ nd => absurd nd nn⟩
        refine ⟨n, L', k', q, rfl, hk, dk'.v, o, ?_⟩
        trivial
        exact hR _ _ ⟨_, rfl, rfl⟩
      · rintro δ b' ⟨s7, rfl, rfl⟩
        trivial
        exact .inl hQ
  obtain ⟨T, hT⟩ : ∃ T, T = dp 4 B_95 := ⟨_, rfl⟩
  rw [← hT] at tail ⊢
  unfold B_95 N_95
  simp only [tk]
  trivial
  rw [h16, h92]
  refine ⟨_, ns, rfl, .inl rfl, fun n L hd => ?_⟩
  have hn := hd.len
  trivial
  have e6 : cutL (L.map limL) none (some 6) = (L.take 6).map limL := by rw [cut_to _ (k := 6) (by rfl), List.map_take]
  rw [e6]
  have hs : ∀ l ∈ L.take 6, l ∈ L := fun l hl => List.mem_of_mem_take hl
  have hl : (L.take 6).length ≤ L.length := by rw [List.length_take]; omega
  have hl6 : (L.take 6).length ≤ 6 := by rw [List.length_take]; omega
  refine ⟨ns, n, L.take 6, rfl, by omega, by omega, fun l h => hd.1 l (hs l h), ?_, fun l f _ => ?_⟩
  · exact tail n _ _ (hd.dsk.sub hs hl)
  · exact tail n _ _ (hd.more hs hl f (by omega))
end LK

namespace LK.Kk08
open PySem PySem.Spec PyProof.Rows L2
def M : Nms where
  fn := fun i => match i with | 0 => "_law_number" | 1 => "_law_cell_at" | 3 => "divisor" | 4 => "frac" | 5 => "below" | 6 => "_law_divisor" | 7 => "_law_whole" | 8 => "_law_is_fraction" | 10 => "plus" | 11 => "turned" | 12 => "less" | 13 => "times" | 14 => "over" | 16 => "_law_desk" | 17 => "_law_copied" | 18 => "told" | 19 => "is_whole" | 20 => "is_small" | 21 => "is_row" | 22 => "is_limit" | 23 => "desk_of" | 24 => "_law_frac" | 26 => "_law_add" | 28 => "weight" | 29 => "_law_below" | 39 => "lowest" | 40 => "slack" | 41 => "first_rows" | 42 => "first_board" | 43 => "solved" | 44 => "put_in" | 45 => "swap" | 46 => "entering" | 47 => "leaving" | 48 => "climb" | 49 => "helped" | 50 => "cut" | 51 => "lose" | 52 => "freed" | 53 => "priced" | 54 => "shares_on" | 55 => "opened" | 56 => "now" | 57 => "point_on" | 60 => "_law_is_point" | 63 => "_law_weigh" | 64 => "_law_keeps" | 67 => "checked_goal" | 68 => "aimed" | 69 => "grows" | 70 => "way_on" | 71 => "best" | 77 => "checked_place" | 82 => "without" | 83 => "with_nought" | 84 => "moved" | 85 => "beyond" | 86 => "cover" | 87 => "needless" | 92 => "_law_more" | 93 => "lean" | 94 => "_law_shown" | 95 => "law" | _ => "?"
  gl := fun i => match i with | 0 => "KINDS" | 1 => "LIMITS" | 2 => "LIMIT" | 3 => "NOUGHT" | 4 => "ONE" | 5 => "HELPER" | _ => "?"
  ex := fun i => match i with | 0 => "LimitError" | 1 => "NoDesk" | 3 => "NoGoal" | 4 => "NoPlace" | _ => "?"
  bd := "Board"
  hf := fun i => ([0, 1, 3, 4, 5, 6, 7, 8, 10, 11, 12, 13, 14, 16, 17, 18, 19, 20, 21, 22, 23, 24, 26, 28, 29, 39, 40, 41, 42, 43, 44, 46, 47, 48, 49, 50, 52, 53, 54, 55, 56, 57, 60, 63, 64, 67, 68, 69, 70, 71, 77, 82, 83, 84, 85, 86, 87, 92, 93, 94, 95] : List Nat).contains i
  hm := fun i => ([45, 51] : List Nat).contains i
  hg := fun i => ([0, 1, 2, 3, 4, 5] : List Nat).contains i
  hc := fun i => ([0, 1, 3, 4] : List Nat).contains i
  hb := true
def G : Gm where
  sp := fun i => match i with | 0 => sp_0 | 1 => sp_1 | 3 => sp_3 | 4 => sp_4 | 5 => sp_5 | 6 => sp_6 | 7 => sp_7 | 8 => sp_8 | 10 => sp_10 | 11 => sp_11 | 12 => sp_12 | 13 => sp_13 | 14 => sp_14 | 16 => sp_16 | 17 => sp_17 | 18 => sp_18 | 19 => sp_19 | 20 => sp_20 | 21 => sp_21 | 22 => sp_22 | 23 => sp_23 | 24 => sp_24 | 26 => sp_26 | 28 => sp_28 | 29 => sp_29 | 39 => sp_39 | 40 => sp_40 | 41 => sp_41 | 42 => sp_42 | 43 => sp_43 | 44 => sp_44 | 45 => sp_45 | 46 => sp_46 | 47 => sp_47 | 48 => sp_48 | 49 => sp_49 | 50 => sp_50 | 51 => sp_51 | 52 => sp_52 | 53 => sp_53 | 54 => sp_54 | 55 => sp_55 | 56 => sp_56 | 57 => sp_57 | 60 => sp_60 | 63 => sp_63 | 64 => sp_64 | 67 => sp_67 | 68 => sp_68 | 69 => sp_69 | 70 => sp_70 | 71 => sp_71 | 77 => sp_77 | 82 => sp_82 | 83 => sp_83 | 84 => sp_84 | 85 => sp_85 | 86 => sp_86 | 87 => sp_87 | 92 => sp_92 | 93 => sp_93 | 94 => sp_94 | 95 => sp_95 | _ => fun _ _ _ _ => False
  fr := fun i => ([17] : List Nat).contains i
  gc := fun i => match i with | 0 => .int 4 | 1 => .int 10 | 2 => .int 1000000000000 | 3 => .tup [.int 0, .int 1] | 4 => .tup [.int 1, .int 1] | 5 => .int 0 | _ => .non
def S (K : PySem.W.Frag) : Sy := { G := G, M := M, ca := fun c => He.ga K (M.ex c), bc := He.ga K "Board" }
theorem sc_0 : FnScope N_0 (["_law_cell", "_law_wide"] : List Str) (defScope t_0) := ⟨rfl, rfl, rfl, by decide +kernel, rfl, by decide +kernel, by decide +kernel⟩
theorem ch_0 : chkB ((S default).upto 0).M N_0 G.fr (G.fr 0) (defScope t_0) B_0 (defBody t_0) = true := by decide +kernel
theorem sc_1 : FnScope N_1 (["_law_script", "_law_k"] : List Str) (defScope t_1) := ⟨rfl, rfl, rfl, by decide +kernel, rfl, by decide +kernel, by decide +kernel⟩
theorem ch_1 : chkB ((S default).upto 1).M N_1 G.fr (G.fr 1) (defScope t_1) B_1 (defBody t_1) = true := by decide +kernel
theorem sc_3 : FnScope N_3 (["a", "b"] : List Str) (defScope t_3) := ⟨rfl, rfl, rfl, by decide +kernel, rfl, by decide +kernel, by decide +kernel⟩
theorem ch_3 : chkB ((S default).upto 3).M N_3 G.fr (G.fr 3) (defScope t_3) B_3 (defBody t_3) = true := by decide +kernel
theorem sc_4 : FnScope N_4 (["upper", "lower"] : List Str) (defScope t_4) := ⟨rfl, rfl, rfl, by decide +kernel, rfl, by decide +kernel, by decide +kernel⟩
theorem ch_4 : chkB ((S default).upto 4).M N_4 G.fr (G.fr 4) (defScope t_4) B_4 (defBody t_4) = true := by decide +kernel
theorem sc_5 : FnScope N_5 (["a", "b"] : List Str) (defScope t_5) := ⟨rfl, rfl, rfl, by decide +kernel, rfl, by decide +kernel, by decide +kernel⟩
theorem ch_5 : chkB ((S default).upto 5).M N_5 G.fr (G.fr 5) (defScope t_5) B_5 (defBody t_5) = true := by decide +kernel
theorem sc_6 : FnScope N_6 (["_law_a", "_law_b"] : List Str) (defScope t_6) := ⟨rfl, rfl, rfl, by decide +kernel, rfl, by decide +kernel, by decide +kernel⟩
theorem ch_6 : chkB ((S default).upto 6).M N_6 G.fr (G.fr 6) (defScope t_6) B_6 (defBody t_6) = true := by decide +kernel
theorem sc_7 : FnScope N_7 (["_law_found"] : List Str) (defScope t_7) := ⟨rfl, rfl, rfl, by decide +kernel, rfl, by decide +kernel, by decide +kernel⟩
theorem ch_7 : chkB ((S default).upto 7).M N_7 G.fr (G.fr 7) (defScope t_7) B_7 (defBody t_7) = true := by decide +kernel
theorem sc_8 : FnScope N_8 (["_law_found"] : List Str) (defScope t_8) := ⟨rfl, rfl, rfl, by decide +kernel, rfl, by decide +kernel, by decide +kernel⟩
theorem ch_8 : chkB ((S default).upto 8).M N_8 G.fr (G.fr 8) (defScope t_8) B_8 (defBody t_8) = true := by decide +kernel
theorem sc_10 : FnScope N_10 (["a", "b"] : List Str) (defScope t_10) := ⟨rfl, rfl, rfl, by decide +kernel, rfl, by decide +kernel, by decide +kernel⟩
theorem ch_10 : chkB ((S default).upto 10).M N_10 G.fr (G.fr 10) (defScope t_10) B_10 (defBody t_10) = true := by decide +kernel
theorem sc_11 : FnScope N_11 (["a"] : List Str) (defScope t_11) := ⟨rfl, rfl, rfl, by decide +kernel, rfl, by decide +kernel, by decide +kernel⟩
theorem ch_11 : chkB ((S default).upto 11).M N_11 G.fr (G.fr 11) (defScope t_11) B_11 (defBody t_11) = true := by decide +kernel
theorem sc_12 : FnScope N_12 (["a", "b"] : List Str) (defScope t_12) := ⟨rfl, rfl, rfl, by decide +kernel, rfl, by decide +kernel, by decide +kernel⟩
theorem ch_12 : chkB ((S default).upto 12).M N_12 G.fr (G.fr 12) (defScope t_12) B_12 (defBody t_12) = true := by decide +kernel
theorem sc_13 : FnScope N_13 (["a", "b"] : List Str) (defScope t_13) := ⟨rfl, rfl, rfl, by decide +kernel, rfl, by decide +kernel, by decide +kernel⟩
theorem ch_13 : chkB ((S default).upto 13).M N_13 G.fr (G.fr 13) (defScope t_13) B_13 (defBody t_13) = true := by decide +kernel
theorem sc_14 : FnScope N_14 (["a", "b"] : List Str) (defScope t_14) := ⟨rfl, rfl, rfl, by decide +kernel, rfl, by decide +kernel, by decide +kernel⟩
theorem ch_14 : chkB ((S default).upto 14).M N_14 G.fr (G.fr 14) (defScope t_14) B_14 (defBody t_14) = true := by decide +kernel
theorem sc_16 : FnScope N_16 (["_law_script"] : List Str) (defScope t_16) := ⟨rfl, rfl, rfl, by decide +kernel, rfl, by decide +kernel, by decide +kernel⟩
theorem ch_16 : chkB ((S default).upto 16).M N_16 G.fr (G.fr 16) (defScope t_16) B_16 (defBody t_16) = true := by decide +kernel
theorem sc_17 : FnScope N_17 (["_law_limits"] : List Str) (defScope t_17) := ⟨rfl, rfl, rfl, by decide +kernel, rfl, by decide +kernel, by decide +kernel⟩
theorem ch_17 : chkB ((S default).upto 17).M N_17 G.fr (G.fr 17) (defScope t_17) B_17 (defBody t_17) = true := by decide +kernel
theorem sc_18 : FnScope N_18 (["kinds", "limits"] : List Str) (defScope t_18) := ⟨rfl, rfl, rfl, by decide +kernel, rfl, by decide +kernel, by decide +kernel⟩
theorem ch_18 : chkB ((S default).upto 18).M N_18 G.fr (G.fr 18) (defScope t_18) B_18 (defBody t_18) = true := by decide +kernel
theorem sc_19 : FnScope N_19 (["thing"] : List Str) (defScope t_19) := ⟨rfl, rfl, rfl, by decide +kernel, rfl, by decide +kernel, by decide +kernel⟩
theorem ch_19 : chkB ((S default).upto 19).M N_19 G.fr (G.fr 19) (defScope t_19) B_19 (defBody t_19) = true := by decide +kernel
theorem sc_20 : FnScope N_20 (["number"] : List Str) (defScope t_20) := ⟨rfl, rfl, rfl, by decide +kernel, rfl, by decide +kernel, by decide +kernel⟩
theorem ch_20 : chkB ((S default).upto 20).M N_20 G.fr (G.fr 20) (defScope t_20) B_20 (defBody t_20) = true := by decide +kernel
theorem sc_21 : FnScope N_21 (["size", "thing"] : List Str) (defScope t_21) := ⟨rfl, rfl, rfl, by decide +kernel, rfl, by decide +kernel, by decide +kernel⟩
theorem ch_21 : chkB ((S default).upto 21).M N_21 G.fr (G.fr 21) (defScope t_21) B_21 (defBody t_21) = true := by decide +kernel
theorem sc_22 : FnScope N_22 (["kinds", "thing"] : List Str) (defScope t_22) := ⟨rfl, rfl, rfl, by decide +kernel, rfl, by decide +kernel, by decide +kernel⟩
theorem ch_22 : chkB ((S default).upto 22).M N_22 G.fr (G.fr 22) (defScope t_22) B_22 (defBody t_22) = true := by decide +kernel
theorem sc_23 : FnScope N_23 (["kinds", "limits"] : List Str) (defScope t_23) := ⟨rfl, rfl, rfl, by decide +kernel, rfl, by decide +kernel, by decide +kernel⟩
theorem ch_23 : chkB ((S default).upto 23).M N_23 G.fr (G.fr 23) (defScope t_23) B_23 (defBody t_23) = true := by decide +kernel
theorem sc_24 : FnScope N_24 (["_law_upper", "_law_lower"] : List Str) (defScope t_24) := ⟨rfl, rfl, rfl, by decide +kernel, rfl, by decide +kernel, by decide +kernel⟩
theorem ch_24 : chkB ((S default).upto 24).M N_24 G.fr (G.fr 24) (defScope t_24) B_24 (defBody t_24) = true := by decide +kernel
theorem sc_26 : FnScope N_26 (["_law_a", "_law_b", "_law_many"] : List Str) (defScope t_26) := ⟨rfl, rfl, rfl, by decide +kernel, rfl, by decide +kernel, by decide +kernel⟩
theorem ch_26 : chkB ((S default).upto 26).M N_26 G.fr (G.fr 26) (defScope t_26) B_26 (defBody t_26) = true := by decide +kernel
theorem sc_28 : FnScope N_28 (["weights", "point"] : List Str) (defScope t_28) := ⟨rfl, rfl, rfl, by decide +kernel, rfl, by decide +kernel, by decide +kernel⟩
theorem ch_28 : chkB ((S default).upto 28).M N_28 G.fr (G.fr 28) (defScope t_28) B_28 (defBody t_28) = true := by decide +kernel
theorem sc_29 : FnScope N_29 (["_law_a", "_law_b"] : List Str) (defScope t_29) := ⟨rfl, rfl, rfl, by decide +kernel, rfl, by decide +kernel, by decide +kernel⟩
theorem ch_29 : chkB ((S default).upto 29).M N_29 G.fr (G.fr 29) (defScope t_29) B_29 (defBody t_29) = true := by decide +kernel
theorem sc_39 : FnScope N_39 (["rows"] : List Str) (defScope t_39) := ⟨rfl, rfl, rfl, by decide +kernel, rfl, by decide +kernel, by decide +kernel⟩
theorem ch_39 : chkB ((S default).upto 39).M N_39 G.fr (G.fr 39) (defScope t_39) B_39 (defBody t_39) = true := by decide +kernel
theorem sc_40 : FnScope N_40 (["kinds", "place"] : List Str) (defScope t_40) := ⟨rfl, rfl, rfl, by decide +kernel, rfl, by decide +kernel, by decide +kernel⟩
theorem ch_40 : chkB ((S default).upto 40).M N_40 G.fr (G.fr 40) (defScope t_40) B_40 (defBody t_40) = true := by decide +kernel
theorem sc_41 : FnScope N_41 (["desk"] : List Str) (defScope t_41) := ⟨rfl, rfl, rfl, by decide +kernel, rfl, by decide +kernel, by decide +kernel⟩
theorem ch_41 : chkB ((S default).upto 41).M N_41 G.fr (G.fr 41) (defScope t_41) B_41 (defBody t_41) = true := by decide +kernel
theorem sc_42 : FnScope N_42 (["desk"] : List Str) (defScope t_42) := ⟨rfl, rfl, rfl, by decide +kernel, rfl, by decide +kernel, by decide +kernel⟩
theorem ch_42 : chkB ((S default).upto 42).M N_42 G.fr (G.fr 42) (defScope t_42) B_42 (defBody t_42) = true := by decide +kernel
theorem sc_43 : FnScope N_43 (["row", "place"] : List Str) (defScope t_43) := ⟨rfl, rfl, rfl, by decide +kernel, rfl, by decide +kernel, by decide +kernel⟩
theorem ch_43 : chkB ((S default).upto 43).M N_43 G.fr (G.fr 43) (defScope t_43) B_43 (defBody t_43) = true := by decide +kernel
theorem sc_44 : FnScope N_44 (["row", "line", "place"] : List Str) (defScope t_44) := ⟨rfl, rfl, rfl, by decide +kernel, rfl, by decide +kernel, by decide +kernel⟩
theorem ch_44 : chkB ((S default).upto 44).M N_44 G.fr (G.fr 44) (defScope t_44) B_44 (defBody t_44) = true := by decide +kernel
theorem sc_45 : FnScope N_45 (["self", "row", "place"] : List Str) (defScope t_45) := ⟨rfl, rfl, rfl, by decide +kernel, rfl, by decide +kernel, by decide +kernel⟩
theorem ch_45 : chkB ((S default).upto 45).M N_45 G.fr (G.fr 45) (defScope t_45) B_45 (defBody t_45) = true := by decide +kernel
theorem sc_46 : FnScope N_46 (["board"] : List Str) (defScope t_46) := ⟨rfl, rfl, rfl, by decide +kernel, rfl, by decide +kernel, by decide +kernel⟩
theorem ch_46 : chkB ((S default).upto 46).M N_46 G.fr (G.fr 46) (defScope t_46) B_46 (defBody t_46) = true := by decide +kernel
theorem sc_47 : FnScope N_47 (["board", "place"] : List Str) (defScope t_47) := ⟨rfl, rfl, rfl, by decide +kernel, rfl, by decide +kernel, by decide +kernel⟩
theorem ch_47 : chkB ((S default).upto 47).M N_47 G.fr (G.fr 47) (defScope t_47) B_47 (defBody t_47) = true := by decide +kernel
theorem sc_48 : FnScope N_48 (["board"] : List Str) (defScope t_48) := ⟨rfl, rfl, rfl, by decide +kernel, rfl, by decide +kernel, by decide +kernel⟩
theorem ch_48 : chkB ((S default).upto 48).M N_48 G.fr (G.fr 48) (defScope t_48) B_48 (defBody t_48) = true := by decide +kernel
theorem sc_49 : FnScope N_49 (["desk", "first"] : List Str) (defScope t_49) := ⟨rfl, rfl, rfl, by decide +kernel, rfl, by decide +kernel, by decide +kernel⟩
theorem ch_49 : chkB ((S default).upto 49).M N_49 G.fr (G.fr 49) (defScope t_49) B_49 (defBody t_49) = true := by decide +kernel
theorem sc_50 : FnScope N_50 (["row", "place"] : List Str) (defScope t_50) := ⟨rfl, rfl, rfl, by decide +kernel, rfl, by decide +kernel, by decide +kernel⟩
theorem ch_50 : chkB ((S default).upto 50).M N_50 G.fr (G.fr 50) (defScope t_50) B_50 (defBody t_50) = true := by decide +kernel
theorem sc_51 : FnScope N_51 (["self", "place"] : List Str) (defScope t_51) := ⟨rfl, rfl, rfl, by decide +kernel, rfl, by decide +kernel, by decide +kernel⟩
theorem ch_51 : chkB ((S default).upto 51).M N_51 G.fr (G.fr 51) (defScope t_51) B_51 (defBody t_51) = true := by decide +kernel
theorem sc_52 : FnScope N_52 (["board"] : List Str) (defScope t_52) := ⟨rfl, rfl, rfl, by decide +kernel, rfl, by decide +kernel, by decide +kernel⟩
theorem ch_52 : chkB ((S default).upto 52).M N_52 G.fr (G.fr 52) (defScope t_52) B_52 (defBody t_52) = true := by decide +kernel
theorem sc_53 : FnScope N_53 (["board", "number"] : List Str) (defScope t_53) := ⟨rfl, rfl, rfl, by decide +kernel, rfl, by decide +kernel, by decide +kernel⟩
theorem ch_53 : chkB ((S default).upto 53).M N_53 G.fr (G.fr 53) (defScope t_53) B_53 (defBody t_53) = true := by decide +kernel
theorem sc_54 : FnScope N_54 (["desk", "board"] : List Str) (defScope t_54) := ⟨rfl, rfl, rfl, by decide +kernel, rfl, by decide +kernel, by decide +kernel⟩
theorem ch_54 : chkB ((S default).upto 54).M N_54 G.fr (G.fr 54) (defScope t_54) B_54 (defBody t_54) = true := by decide +kernel
theorem sc_55 : FnScope N_55 (["desk"] : List Str) (defScope t_55) := ⟨rfl, rfl, rfl, by decide +kernel, rfl, by decide +kernel, by decide +kernel⟩
theorem ch_55 : chkB ((S default).upto 55).M N_55 G.fr (G.fr 55) (defScope t_55) B_55 (defBody t_55) = true := by decide +kernel
theorem sc_56 : FnScope N_56 (["board", "number"] : List Str) (defScope t_56) := ⟨rfl, rfl, rfl, by decide +kernel, rfl, by decide +kernel, by decide +kernel⟩
theorem ch_56 : chkB ((S default).upto 56).M N_56 G.fr (G.fr 56) (defScope t_56) B_56 (defBody t_56) = true := by decide +kernel
theorem sc_57 : FnScope N_57 (["desk", "board"] : List Str) (defScope t_57) := ⟨rfl, rfl, rfl, by decide +kernel, rfl, by decide +kernel, by decide +kernel⟩
theorem ch_57 : chkB ((S default).upto 57).M N_57 G.fr (G.fr 57) (defScope t_57) B_57 (defBody t_57) = true := by decide +kernel
theorem sc_60 : FnScope N_60 (["_law_found", "_law_kinds"] : List Str) (defScope t_60) := ⟨rfl, rfl, rfl, by decide +kernel, rfl, by decide +kernel, by decide +kernel⟩
theorem ch_60 : chkB ((S default).upto 60).M N_60 G.fr (G.fr 60) (defScope t_60) B_60 (defBody t_60) = true := by decide +kernel
theorem sc_63 : FnScope N_63 (["_law_weights", "_law_point"] : List Str) (defScope t_63) := ⟨rfl, rfl, rfl, by decide +kernel, rfl, by decide +kernel, by decide +kernel⟩
theorem ch_63 : chkB ((S default).upto 63).M N_63 G.fr (G.fr 63) (defScope t_63) B_63 (defBody t_63) = true := by decide +kernel
theorem sc_64 : FnScope N_64 (["_law_limits", "_law_point"] : List Str) (defScope t_64) := ⟨rfl, rfl, rfl, by decide +kernel, rfl, by decide +kernel, by decide +kernel⟩
theorem ch_64 : chkB ((S default).upto 64).M N_64 G.fr (G.fr 64) (defScope t_64) B_64 (defBody t_64) = true := by decide +kernel
theorem sc_67 : FnScope N_67 (["desk", "goal"] : List Str) (defScope t_67) := ⟨rfl, rfl, rfl, by decide +kernel, rfl, by decide +kernel, by decide +kernel⟩
theorem ch_67 : chkB ((S default).upto 67).M N_67 G.fr (G.fr 67) (defScope t_67) B_67 (defBody t_67) = true := by decide +kernel
theorem sc_68 : FnScope N_68 (["desk", "board", "goal"] : List Str) (defScope t_68) := ⟨rfl, rfl, rfl, by decide +kernel, rfl, by decide +kernel, by decide +kernel⟩
theorem ch_68 : chkB ((S default).upto 68).M N_68 G.fr (G.fr 68) (defScope t_68) B_68 (defBody t_68) = true := by decide +kernel
theorem sc_69 : FnScope N_69 (["board", "place", "number"] : List Str) (defScope t_69) := ⟨rfl, rfl, rfl, by decide +kernel, rfl, by decide +kernel, by decide +kernel⟩
theorem ch_69 : chkB ((S default).upto 69).M N_69 G.fr (G.fr 69) (defScope t_69) B_69 (defBody t_69) = true := by decide +kernel
theorem sc_70 : FnScope N_70 (["desk", "board", "place"] : List Str) (defScope t_70) := ⟨rfl, rfl, rfl, by decide +kernel, rfl, by decide +kernel, by decide +kernel⟩
theorem ch_70 : chkB ((S default).upto 70).M N_70 G.fr (G.fr 70) (defScope t_70) B_70 (defBody t_70) = true := by decide +kernel
theorem sc_71 : FnScope N_71 (["desk", "goal"] : List Str) (defScope t_71) := ⟨rfl, rfl, rfl, by decide +kernel, rfl, by decide +kernel, by decide +kernel⟩
theorem ch_71 : chkB ((S default).upto 71).M N_71 G.fr (G.fr 71) (defScope t_71) B_71 (defBody t_71) = true := by decide +kernel
theorem sc_77 : FnScope N_77 (["size", "place"] : List Str) (defScope t_77) := ⟨rfl, rfl, rfl, by decide +kernel, rfl, by decide +kernel, by decide +kernel⟩
theorem ch_77 : chkB ((S default).upto 77).M N_77 G.fr (G.fr 77) (defScope t_77) B_77 (defBody t_77) = true := by decide +kernel
theorem sc_82 : FnScope N_82 (["desk", "place"] : List Str) (defScope t_82) := ⟨rfl, rfl, rfl, by decide +kernel, rfl, by decide +kernel, by decide +kernel⟩
theorem ch_82 : chkB ((S default).upto 82).M N_82 G.fr (G.fr 82) (defScope t_82) B_82 (defBody t_82) = true := by decide +kernel
theorem sc_83 : FnScope N_83 (["shares", "place"] : List Str) (defScope t_83) := ⟨rfl, rfl, rfl, by decide +kernel, rfl, by decide +kernel, by decide +kernel⟩
theorem ch_83 : chkB ((S default).upto 83).M N_83 G.fr (G.fr 83) (defScope t_83) B_83 (defBody t_83) = true := by decide +kernel
theorem sc_84 : FnScope N_84 (["point", "way", "many"] : List Str) (defScope t_84) := ⟨rfl, rfl, rfl, by decide +kernel, rfl, by decide +kernel, by decide +kernel⟩
theorem ch_84 : chkB ((S default).upto 84).M N_84 G.fr (G.fr 84) (defScope t_84) B_84 (defBody t_84) = true := by decide +kernel
theorem sc_85 : FnScope N_85 (["limit", "point", "way"] : List Str) (defScope t_85) := ⟨rfl, rfl, rfl, by decide +kernel, rfl, by decide +kernel, by decide +kernel⟩
theorem ch_85 : chkB ((S default).upto 85).M N_85 G.fr (G.fr 85) (defScope t_85) B_85 (defBody t_85) = true := by decide +kernel
theorem sc_86 : FnScope N_86 (["desk", "place"] : List Str) (defScope t_86) := ⟨rfl, rfl, rfl, by decide +kernel, rfl, by decide +kernel, by decide +kernel⟩
theorem ch_86 : chkB ((S default).upto 86).M N_86 G.fr (G.fr 86) (defScope t_86) B_86 (defBody t_86) = true := by decide +kernel
theorem sc_87 : FnScope N_87 (["desk", "place"] : List Str) (defScope t_87) := ⟨rfl, rfl, rfl, by decide +kernel, rfl, by decide +kernel, by decide +kernel⟩
theorem ch_87 : chkB ((S default).upto 87).M N_87 G.fr (G.fr 87) (defScope t_87) B_87 (defBody t_87) = true := by decide +kernel
theorem sc_92 : FnScope N_92 (["_law_script", "_law_drawn"] : List Str) (defScope t_92) := ⟨rfl, rfl, rfl, by decide +kernel, rfl, by decide +kernel, by decide +kernel⟩
theorem ch_92 : chkB ((S default).upto 92).M N_92 G.fr (G.fr 92) (defScope t_92) B_92 (defBody t_92) = true := by decide +kernel
theorem sc_93 : FnScope N_93 (["desk"] : List Str) (defScope t_93) := ⟨rfl, rfl, rfl, by decide +kernel, rfl, by decide +kernel, by decide +kernel⟩
theorem ch_93 : chkB ((S default).upto 93).M N_93 G.fr (G.fr 93) (defScope t_93) B_93 (defBody t_93) = true := by decide +kernel
theorem sc_94 : FnScope N_94 (["_law_limits", "_law_place", "_law_kinds", "_law_answer"] : List Str) (defScope t_94) := ⟨rfl, rfl, rfl, by decide +kernel, rfl, by decide +kernel, by decide +kernel⟩
theorem ch_94 : chkB ((S default).upto 94).M N_94 G.fr (G.fr 94) (defScope t_94) B_94 (defBody t_94) = true := by decide +kernel
theorem sc_95 : FnScope N_95 (["_law_script"] : List Str) (defScope t_95) := ⟨rfl, rfl, rfl, by decide +kernel, rfl, by decide +kernel, by decide +kernel⟩
theorem ch_95 : chkB ((S default).upto 95).M N_95 G.fr (G.fr 95) (defScope t_95) B_95 (defBody t_95) = true := by decide +kernel
theorem sc_init : FnScope initN initN (defScope t_init) := ⟨rfl, rfl, rfl, by decide +kernel, rfl, by decide +kernel, by decide +kernel⟩
theorem ch_init : chkInit (defScope t_init) (defBody t_init) = true := by decide +kernel
section
variable {w : World} {K : PySem.W.Frag} {mg : Str → Option Value} {h base : Heap}
theorem bl_mem : ∀ x ∈ bltNames, He.Fa.free x ∈ fal := by simp [bltNames, fal]
theorem facts0 (X : K.In h) (G0 : h.Ns mainGlobals mg) (c : He.SaysX fal fnl [] [] exl w h K) : Facts PySem.Challenge.pw_limitdesk_k08_lean_desks w K mg base ((S K).upto 0) 1 := by
  have fa : ∀ f ∈ fal, f.ok K = true := fun f hf => He.SaysD.facts c.t.d hf
  have ex := c.more
  refine ⟨fun f hf => (by simp [Sy.upto] at hf), fun f hf => (by simp [Sy.upto] at hf), fun x hx => ?_, fun g hg => ?_, fun e he => ?_, fun e1 e2 h1 h2 => ?_, fun hb => ?_⟩
  · exact He.free_ok X G0 (fa (.free x) (bl_mem x hx))
  · have hg : ([0, 1, 2, 3, 4, 5] : List Nat).contains g = true := hg
    simp only [exl, Bool.and_eq_true] at ex
    simp only [List.contains_cons, List.contains_nil, Bool.or_false, Bool.or_eq_true, beq_iff_eq] at hg
    rcases hg with rfl | rfl | rfl | rfl | rfl | rfl
    · exact gl_int X G0 (fa (.int "KINDS" 4) (by simp [fal]))
    · exact gl_int X G0 (fa (.int "LIMITS" 10) (by simp [fal]))
    · exact gl_int X G0 (fa (.int "LIMIT" 1000000000000) (by simp [fal]))
    · exact gl_pair X G0 (fa (.glo "NOUGHT") (by simp [fal])) ex.1.2
    · exact gl_pair X G0 (fa (.glo "ONE") (by simp [fal])) ex.2
    · exact gl_int X G0 (fa (.int "HELPER" 0) (by simp [fal]))
  · have he : ([0, 1, 3, 4] : List Nat).contains e = true := he
    simp only [exl, Bool.and_eq_true] at ex
    simp only [List.contains_cons, List.contains_nil, Bool.or_false, Bool.or_eq_true, beq_iff_eq] at he
    rcases he with rfl | rfl | rfl | rfl
    · exact excF_of (S := (S K).upto 0) X G0 rfl (fa (.glo "LimitError") (by simp [fal])) (fa (.exc "LimitError") (by simp [fal])) ex.1.1.1.1.1
    · exact excF_of (S := (S K).upto 0) X G0 rfl (fa (.glo "NoDesk") (by simp [fal])) (fa (.exc "NoDesk") (by simp [fal])) ex.1.1.1.1.2
    · exact excF_of (S := (S K).upto 0) X G0 rfl (fa (.glo "NoGoal") (by simp [fal])) (fa (.exc "NoGoal") (by simp [fal])) ex.1.1.1.2
    · exact excF_of (S := (S K).upto 0) X G0 rfl (fa (.glo "NoPlace") (by simp [fal])) (fa (.exc "NoPlace") (by simp [fal])) ex.1.1.2
  · have h1 : ([0, 1, 3, 4] : List Nat).contains e1 = true := h1
    have h2 : ([0, 1, 3, 4] : List Nat).contains e2 = true := h2
    simp only [List.contains_cons, List.contains_nil, Bool.or_false, Bool.or_eq_true, beq_iff_eq] at h1 h2
    rcases h1 with rfl | rfl | rfl | rfl <;> rcases h2 with rfl | rfl | rfl | rfl
    · exact He.exm_ok (fa (.exm "LimitError" "LimitError" true) (by simp [fal]))
    · exact He.exm_ok (fa (.exm "LimitError" "NoDesk" false) (by simp [fal]))
    · exact He.exm_ok (fa (.exm "LimitError" "NoGoal" false) (by simp [fal]))
    · exact He.exm_ok (fa (.exm "LimitError" "NoPlace" false) (by simp [fal]))
    · exact He.exm_ok (fa (.exm "NoDesk" "LimitError" true) (by simp [fal]))
    · exact He.exm_ok (fa (.exm "NoDesk" "NoDesk" true) (by simp [fal]))
    · exact He.exm_ok (fa (.exm "NoDesk" "NoGoal" false) (by simp [fal]))
    · exact He.exm_ok (fa (.exm "NoDesk" "NoPlace" false) (by simp [fal]))
    · exact He.exm_ok (fa (.exm "NoGoal" "LimitError" true) (by simp [fal]))
    · exact He.exm_ok (fa (.exm "NoGoal" "NoDesk" false) (by simp [fal]))
    · exact He.exm_ok (fa (.exm "NoGoal" "NoGoal" true) (by simp [fal]))
    · exact He.exm_ok (fa (.exm "NoGoal" "NoPlace" false) (by simp [fal]))
    · exact He.exm_ok (fa (.exm "NoPlace" "LimitError" true) (by simp [fal]))
    · exact He.exm_ok (fa (.exm "NoPlace" "NoDesk" false) (by simp [fal]))
    · exact He.exm_ok (fa (.exm "NoPlace" "NoGoal" false) (by simp [fal]))
    · exact He.exm_ok (fa (.exm "NoPlace" "NoPlace" true) (by simp [fal]))
  · exact bd_of X G0 rfl rfl (fa (.glo "Board") (by simp [fal])) (fa (.cls "Board") (by simp [fal])) (fun f => by cases f <;> exact fa (.noat "Board" _) (by simp [fal, flName])) (fa (.mkr "Board") (by simp [fal])) (He.SaysD.defs c.t.d (d := d_init) (by simp [fnl])) sc_init ch_init (fun _ _ _ _ _ _ us hl => match us, hl with | [_, _, _, _, _], _ => rfl)
theorem facts (X : K.In h) (G0 : h.Ns mainGlobals mg) (c : He.SaysX fal fnl [] [] exl w h K) : Facts PySem.Challenge.pw_limitdesk_k08_lean_desks w K mg base ((S K).upto 95) 125 := by
  have fa : ∀ f ∈ fal, f.ok K = true := fun f hf => He.SaysD.facts c.t.d hf
  have f := facts0 (base := base) X G0 c
  obtain ⟨fd, F⟩ := He.SaysD.defs c.t.d (d := d_0) (by simp [fnl])
  have f := f.step F sc_0 B_0 rfl (He.glo_ok X G0 (fa (.glo "_law_number") (by simp [fal]))) rfl (fun _ _ _ _ _ _ us hl => match us, hl with | [_, _], _ => rfl) ch_0 len_0 (meets_0 rfl)
  obtain ⟨fd, F⟩ := He.SaysD.defs c.t.d (d := d_1) (by simp [fnl])
  have f := f.step F sc_1 B_1 rfl (He.glo_ok X G0 (fa (.glo "_law_cell_at") (by simp [fal]))) rfl (fun _ _ _ _ _ _ us hl => match us, hl with | [_, _], _ => rfl) ch_1 len_1 (meets_1 rfl)
  have f := f.skip 3 (by kernel_rfl)
  obtain ⟨fd, F⟩ := He.SaysD.defs c.t.d (d := d_3) (by simp [fnl])
  have f := f.step F sc_3 B_3 rfl (He.glo_ok X G0 (fa (.glo "divisor") (by simp [fal]))) rfl (fun _ _ _ _ _ _ us hl => match us, hl with | [_, _], _ => rfl) ch_3 len_3 (meets_3 rfl)
  obtain ⟨fd, F⟩ := He.SaysD.defs c.t.d (d := d_4) (by simp [fnl])
  have f := f.step F sc_4 B_4 rfl (He.glo_ok X G0 (fa (.glo "frac") (by simp [fal]))) rfl (fun _ _ _ _ _ _ us hl => match us, hl with | [_, _], _ => rfl) ch_4 len_4 (meets_4 rfl rfl)
  obtain ⟨fd, F⟩ := He.SaysD.defs c.t.d (d := d_5) (by simp [fnl])
  have f := f.step F sc_5 B_5 rfl (He.glo_ok X G0 (fa (.glo "below") (by simp [fal]))) rfl (fun _ _ _ _ _ _ us hl => match us, hl with | [_, _], _ => rfl) ch_5 len_5 (meets_5 rfl)
  obtain ⟨fd, F⟩ := He.SaysD.defs c.t.d (d := d_6) (by simp [fnl])
  have f := f.step F sc_6 B_6 rfl (He.glo_ok X G0 (fa (.glo "_law_divisor") (by simp [fal]))) rfl (fun _ _ _ _ _ _ us hl => match us, hl with | [_, _], _ => rfl) ch_6 len_6 (meets_6 rfl)
  obtain ⟨fd, F⟩ := He.SaysD.defs c.t.d (d := d_7) (by simp [fnl])
  have f := f.step F sc_7 B_7 rfl (He.glo_ok X G0 (fa (.glo "_law_whole") (by simp [fal]))) rfl (fun _ _ _ _ _ _ us hl => match us, hl with | [_], _ => rfl) ch_7 len_7 (meets_7 rfl)
  obtain ⟨fd, F⟩ := He.SaysD.defs c.t.d (d := d_8) (by simp [fnl])
  have f := f.step F sc_8 B_8 rfl (He.glo_ok X G0 (fa (.glo "_law_is_fraction") (by simp [fal]))) rfl (fun _ _ _ _ _ _ us hl => match us, hl with | [_], _ => rfl) ch_8 len_8 (meets_8 rfl rfl rfl)
  have f := f.skip 10 (by kernel_rfl)
  obtain ⟨fd, F⟩ := He.SaysD.defs c.t.d (d := d_10) (by simp [fnl])
  have f := f.step F sc_10 B_10 rfl (He.glo_ok X G0 (fa (.glo "plus") (by simp [fal]))) rfl (fun _ _ _ _ _ _ us hl => match us, hl with | [_, _], _ => rfl) ch_10 len_10 (meets_10 rfl rfl)
  obtain ⟨fd, F⟩ := He.SaysD.defs c.t.d (d := d_11) (by simp [fnl])
  have f := f.step F sc_11 B_11 rfl (He.glo_ok X G0 (fa (.glo "turned") (by simp [fal]))) rfl (fun _ _ _ _ _ _ us hl => match us, hl with | [_], _ => rfl) ch_11 len_11 (meets_11 rfl)
  obtain ⟨fd, F⟩ := He.SaysD.defs c.t.d (d := d_12) (by simp [fnl])
  have f := f.step F sc_12 B_12 rfl (He.glo_ok X G0 (fa (.glo "less") (by simp [fal]))) rfl (fun _ _ _ _ _ _ us hl => match us, hl with | [_, _], _ => rfl) ch_12 len_12 (meets_12 rfl rfl rfl)
  obtain ⟨fd, F⟩ := He.SaysD.defs c.t.d (d := d_13) (by simp [fnl])
  have f := f.step F sc_13 B_13 rfl (He.glo_ok X G0 (fa (.glo "times") (by simp [fal]))) rfl (fun _ _ _ _ _ _ us hl => match us, hl with | [_, _], _ => rfl) ch_13 len_13 (meets_13 rfl rfl)
  obtain ⟨fd, F⟩ := He.SaysD.defs c.t.d (d := d_14) (by simp [fnl])
  have f := f.step F sc_14 B_14 rfl (He.glo_ok X G0 (fa (.glo "over") (by simp [fal]))) rfl (fun _ _ _ _ _ _ us hl => match us, hl with | [_, _], _ => rfl) ch_14 len_14 (meets_14 rfl rfl)
  have f := f.skip 16 (by kernel_rfl)
  obtain ⟨fd, F⟩ := He.SaysD.defs c.t.d (d := d_16) (by simp [fnl])
  have f := f.step F sc_16 B_16 rfl (He.glo_ok X G0 (fa (.glo "_law_desk") (by simp [fal]))) rfl (fun _ _ _ _ _ _ us hl => match us, hl with | [_], _ => rfl) ch_16 len_16 (meets_16 rfl rfl rfl)
  obtain ⟨fd, F⟩ := He.SaysD.defs c.t.d (d := d_17) (by simp [fnl])
  have f := f.step F sc_17 B_17 rfl (He.glo_ok X G0 (fa (.glo "_law_copied") (by simp [fal]))) rfl (fun _ _ _ _ _ _ us hl => match us, hl with | [_], _ => rfl) ch_17 len_17 (meets_17 rfl)
  obtain ⟨fd, F⟩ := He.SaysD.defs c.t.d (d := d_18) (by simp [fnl])
  have f := f.step F sc_18 B_18 rfl (He.glo_ok X G0 (fa (.glo "told") (by simp [fal]))) rfl (fun _ _ _ _ _ _ us hl => match us, hl with | [_, _], _ => rfl) ch_18 len_18 (meets_18 rfl)
  obtain ⟨fd, F⟩ := He.SaysD.defs c.t.d (d := d_19) (by simp [fnl])
  have f := f.step F sc_19 B_19 rfl (He.glo_ok X G0 (fa (.glo "is_whole") (by simp [fal]))) rfl (fun _ _ _ _ _ _ us hl => match us, hl with | [_], _ => rfl) ch_19 len_19 (meets_19 rfl)
  obtain ⟨fd, F⟩ := He.SaysD.defs c.t.d (d := d_20) (by simp [fnl])
  have f := f.step F sc_20 B_20 rfl (He.glo_ok X G0 (fa (.glo "is_small") (by simp [fal]))) rfl (fun _ _ _ _ _ _ us hl => match us, hl with | [_], _ => rfl) ch_20 len_20 (meets_20 rfl rfl)
  obtain ⟨fd, F⟩ := He.SaysD.defs c.t.d (d := d_21) (by simp [fnl])
  have f := f.step F sc_21 B_21 rfl (He.glo_ok X G0 (fa (.glo "is_row") (by simp [fal]))) rfl (fun _ _ _ _ _ _ us hl => match us, hl with | [_, _], _ => rfl) ch_21 len_21 (meets_21 rfl rfl)
  obtain ⟨fd, F⟩ := He.SaysD.defs c.t.d (d := d_22) (by simp [fnl])
  have f := f.step F sc_22 B_22 rfl (He.glo_ok X G0 (fa (.glo "is_limit") (by simp [fal]))) rfl (fun _ _ _ _ _ _ us hl => match us, hl with | [_, _], _ => rfl) ch_22 len_22 (meets_22 rfl rfl rfl rfl)
  obtain ⟨fd, F⟩ := He.SaysD.defs c.t.d (d := d_23) (by simp [fnl])
  have f := f.step F sc_23 B_23 rfl (He.glo_ok X G0 (fa (.glo "desk_of") (by simp [fal]))) rfl (fun _ _ _ _ _ _ us hl => match us, hl with | [_, _], _ => rfl) ch_23 len_23 (meets_23 rfl rfl rfl rfl rfl rfl)
  obtain ⟨fd, F⟩ := He.SaysD.defs c.t.d (d := d_24) (by simp [fnl])
  have f := f.step F sc_24 B_24 rfl (He.glo_ok X G0 (fa (.glo "_law_frac") (by simp [fal]))) rfl (fun _ _ _ _ _ _ us hl => match us, hl with | [_, _], _ => rfl) ch_24 len_24 (meets_24 rfl rfl)
  have f := f.skip 26 (by kernel_rfl)
  obtain ⟨fd, F⟩ := He.SaysD.defs c.t.d (d := d_26) (by simp [fnl])
  have f := f.step F sc_26 B_26 rfl (He.glo_ok X G0 (fa (.glo "_law_add") (by simp [fal]))) rfl (fun _ _ _ _ _ _ us hl => match us, hl with | [_, _, _], _ => rfl) ch_26 len_26 (meets_26 rfl rfl)
  have f := f.skip 28 (by kernel_rfl)
  obtain ⟨fd, F⟩ := He.SaysD.defs c.t.d (d := d_28) (by simp [fnl])
  have f := f.step F sc_28 B_28 rfl (He.glo_ok X G0 (fa (.glo "weight") (by simp [fal]))) rfl (fun _ _ _ _ _ _ us hl => match us, hl with | [_, _], _ => rfl) ch_28 len_28 (meets_28 rfl rfl rfl rfl)
  obtain ⟨fd, F⟩ := He.SaysD.defs c.t.d (d := d_29) (by simp [fnl])
  have f := f.step F sc_29 B_29 rfl (He.glo_ok X G0 (fa (.glo "_law_below") (by simp [fal]))) rfl (fun _ _ _ _ _ _ us hl => match us, hl with | [_, _], _ => rfl) ch_29 len_29 (meets_29 rfl)
  have f := f.skip 39 (by kernel_rfl)
  obtain ⟨fd, F⟩ := He.SaysD.defs c.t.d (d := d_39) (by simp [fnl])
  have f := f.step F sc_39 B_39 rfl (He.glo_ok X G0 (fa (.glo "lowest") (by simp [fal]))) rfl (fun _ _ _ _ _ _ us hl => match us, hl with | [_], _ => rfl) ch_39 len_39 (meets_39 rfl rfl rfl)
  obtain ⟨fd, F⟩ := He.SaysD.defs c.t.d (d := d_40) (by simp [fnl])
  have f := f.step F sc_40 B_40 rfl (He.glo_ok X G0 (fa (.glo "slack") (by simp [fal]))) rfl (fun _ _ _ _ _ _ us hl => match us, hl with | [_, _], _ => rfl) ch_40 len_40 (meets_40 rfl)
  obtain ⟨fd, F⟩ := He.SaysD.defs c.t.d (d := d_41) (by simp [fnl])
  have f := f.step F sc_41 B_41 rfl (He.glo_ok X G0 (fa (.glo "first_rows") (by simp [fal]))) rfl (fun _ _ _ _ _ _ us hl => match us, hl with | [_], _ => rfl) ch_41 len_41 (meets_41 rfl)
  obtain ⟨fd, F⟩ := He.SaysD.defs c.t.d (d := d_42) (by simp [fnl])
  have f := f.step F sc_42 B_42 rfl (He.glo_ok X G0 (fa (.glo "first_board") (by simp [fal]))) rfl (fun _ _ _ _ _ _ us hl => match us, hl with | [_], _ => rfl) ch_42 len_42 (meets_42 rfl rfl rfl rfl)
  obtain ⟨fd, F⟩ := He.SaysD.defs c.t.d (d := d_43) (by simp [fnl])
  have f := f.step F sc_43 B_43 rfl (He.glo_ok X G0 (fa (.glo "solved") (by simp [fal]))) rfl (fun _ _ _ _ _ _ us hl => match us, hl with | [_, _], _ => rfl) ch_43 len_43 (meets_43 rfl rfl rfl rfl)
  obtain ⟨fd, F⟩ := He.SaysD.defs c.t.d (d := d_44) (by simp [fnl])
  have f := f.step F sc_44 B_44 rfl (He.glo_ok X G0 (fa (.glo "put_in") (by simp [fal]))) rfl (fun _ _ _ _ _ _ us hl => match us, hl with | [_, _, _], _ => rfl) ch_44 len_44 (meets_44 rfl rfl rfl rfl)
  obtain ⟨fd, F⟩ := He.SaysD.defs c.t.d (d := d_45) (by simp [fnl])
  have f := f.stepM F sc_45 B_45 rfl (He.meth_ok (fa (.meth "Board" "swap") (by simp [fal]))) rfl (fun a => rfl) (fun _ _ _ _ _ _ us hl => match us, hl with | [_, _, _], _ => rfl) ch_45 len_45 (meets_45 rfl rfl rfl)
  obtain ⟨fd, F⟩ := He.SaysD.defs c.t.d (d := d_46) (by simp [fnl])
  have f := f.step F sc_46 B_46 rfl (He.glo_ok X G0 (fa (.glo "entering") (by simp [fal]))) rfl (fun _ _ _ _ _ _ us hl => match us, hl with | [_], _ => rfl) ch_46 len_46 (meets_46 rfl)
  obtain ⟨fd, F⟩ := He.SaysD.defs c.t.d (d := d_47) (by simp [fnl])
  have f := f.step F sc_47 B_47 rfl (He.glo_ok X G0 (fa (.glo "leaving") (by simp [fal]))) rfl (fun _ _ _ _ _ _ us hl => match us, hl with | [_, _], _ => rfl) ch_47 len_47 (meets_47 rfl rfl rfl rfl rfl)
  obtain ⟨fd, F⟩ := He.SaysD.defs c.t.d (d := d_48) (by simp [fnl])
  have f := f.step F sc_48 B_48 rfl (He.glo_ok X G0 (fa (.glo "climb") (by simp [fal]))) rfl (fun _ _ _ _ _ _ us hl => match us, hl with | [_], _ => rfl) ch_48 len_48 (meets_48 rfl rfl rfl rfl)
  obtain ⟨fd, F⟩ := He.SaysD.defs c.t.d (d := d_49) (by simp [fnl])
  have f := f.step F sc_49 B_49 rfl (He.glo_ok X G0 (fa (.glo "helped") (by simp [fal]))) rfl (fun _ _ _ _ _ _ us hl => match us, hl with | [_, _], _ => rfl) ch_49 len_49 (meets_49 rfl rfl rfl rfl rfl rfl rfl)
  obtain ⟨fd, F⟩ := He.SaysD.defs c.t.d (d := d_50) (by simp [fnl])
  have f := f.step F sc_50 B_50 rfl (He.glo_ok X G0 (fa (.glo "cut") (by simp [fal]))) rfl (fun _ _ _ _ _ _ us hl => match us, hl with | [_, _], _ => rfl) ch_50 len_50 (meets_50 rfl)
  obtain ⟨fd, F⟩ := He.SaysD.defs c.t.d (d := d_51) (by simp [fnl])
  have f := f.stepM F sc_51 B_51 rfl (He.meth_ok (fa (.meth "Board" "lose") (by simp [fal]))) rfl (fun a => rfl) (fun _ _ _ _ _ _ us hl => match us, hl with | [_, _], _ => rfl) ch_51 len_51 (meets_51 rfl rfl)
  obtain ⟨fd, F⟩ := He.SaysD.defs c.t.d (d := d_52) (by simp [fnl])
  have f := f.step F sc_52 B_52 rfl (He.glo_ok X G0 (fa (.glo "freed") (by simp [fal]))) rfl (fun _ _ _ _ _ _ us hl => match us, hl with | [_], _ => rfl) ch_52 len_52 (meets_52 rfl rfl rfl rfl rfl)
  obtain ⟨fd, F⟩ := He.SaysD.defs c.t.d (d := d_53) (by simp [fnl])
  have f := f.step F sc_53 B_53 rfl (He.glo_ok X G0 (fa (.glo "priced") (by simp [fal]))) rfl (fun _ _ _ _ _ _ us hl => match us, hl with | [_, _], _ => rfl) ch_53 len_53 (meets_53 rfl rfl rfl)
  obtain ⟨fd, F⟩ := He.SaysD.defs c.t.d (d := d_54) (by simp [fnl])
  have f := f.step F sc_54 B_54 rfl (He.glo_ok X G0 (fa (.glo "shares_on") (by simp [fal]))) rfl (fun _ _ _ _ _ _ us hl => match us, hl with | [_, _], _ => rfl) ch_54 len_54 (meets_54 rfl rfl rfl)
  obtain ⟨fd, F⟩ := He.SaysD.defs c.t.d (d := d_55) (by simp [fnl])
  have f := f.step F sc_55 B_55 rfl (He.glo_ok X G0 (fa (.glo "opened") (by simp [fal]))) rfl (fun _ _ _ _ _ _ us hl => match us, hl with | [_], _ => rfl) ch_55 len_55 (meets_55 rfl rfl rfl rfl rfl rfl rfl)
  obtain ⟨fd, F⟩ := He.SaysD.defs c.t.d (d := d_56) (by simp [fnl])
  have f := f.step F sc_56 B_56 rfl (He.glo_ok X G0 (fa (.glo "now") (by simp [fal]))) rfl (fun _ _ _ _ _ _ us hl => match us, hl with | [_, _], _ => rfl) ch_56 len_56 (meets_56 rfl rfl)
  obtain ⟨fd, F⟩ := He.SaysD.defs c.t.d (d := d_57) (by simp [fnl])
  have f := f.step F sc_57 B_57 rfl (He.glo_ok X G0 (fa (.glo "point_on") (by simp [fal]))) rfl (fun _ _ _ _ _ _ us hl => match us, hl with | [_, _], _ => rfl) ch_57 len_57 (meets_57 rfl rfl rfl)
  have f := f.skip 60 (by kernel_rfl)
  obtain ⟨fd, F⟩ := He.SaysD.defs c.t.d (d := d_60) (by simp [fnl])
  have f := f.step F sc_60 B_60 rfl (He.glo_ok X G0 (fa (.glo "_law_is_point") (by simp [fal]))) rfl (fun _ _ _ _ _ _ us hl => match us, hl with | [_, _], _ => rfl) ch_60 len_60 (meets_60 rfl rfl)
  have f := f.skip 63 (by kernel_rfl)
  obtain ⟨fd, F⟩ := He.SaysD.defs c.t.d (d := d_63) (by simp [fnl])
  have f := f.step F sc_63 B_63 rfl (He.glo_ok X G0 (fa (.glo "_law_weigh") (by simp [fal]))) rfl (fun _ _ _ _ _ _ us hl => match us, hl with | [_, _], _ => rfl) ch_63 len_63 (meets_63 rfl rfl)
  obtain ⟨fd, F⟩ := He.SaysD.defs c.t.d (d := d_64) (by simp [fnl])
  have f := f.step F sc_64 B_64 rfl (He.glo_ok X G0 (fa (.glo "_law_keeps") (by simp [fal]))) rfl (fun _ _ _ _ _ _ us hl => match us, hl with | [_, _], _ => rfl) ch_64 len_64 (meets_64 rfl rfl rfl)
  have f := f.skip 67 (by kernel_rfl)
  obtain ⟨fd, F⟩ := He.SaysD.defs c.t.d (d := d_67) (by simp [fnl])
  have f := f.step F sc_67 B_67 rfl (He.glo_ok X G0 (fa (.glo "checked_goal") (by simp [fal]))) rfl (fun _ _ _ _ _ _ us hl => match us, hl with | [_, _], _ => rfl) ch_67 len_67 (meets_67 rfl rfl)
  obtain ⟨fd, F⟩ := He.SaysD.defs c.t.d (d := d_68) (by simp [fnl])
  have f := f.step F sc_68 B_68 rfl (He.glo_ok X G0 (fa (.glo "aimed") (by simp [fal]))) rfl (fun _ _ _ _ _ _ us hl => match us, hl with | [_, _, _], _ => rfl) ch_68 len_68 (meets_68 rfl rfl rfl rfl rfl rfl)
  obtain ⟨fd, F⟩ := He.SaysD.defs c.t.d (d := d_69) (by simp [fnl])
  have f := f.step F sc_69 B_69 rfl (He.glo_ok X G0 (fa (.glo "grows") (by simp [fal]))) rfl (fun _ _ _ _ _ _ us hl => match us, hl with | [_, _, _], _ => rfl) ch_69 len_69 (meets_69 rfl rfl rfl)
  obtain ⟨fd, F⟩ := He.SaysD.defs c.t.d (d := d_70) (by simp [fnl])
  have f := f.step F sc_70 B_70 rfl (He.glo_ok X G0 (fa (.glo "way_on") (by simp [fal]))) rfl (fun _ _ _ _ _ _ us hl => match us, hl with | [_, _, _], _ => rfl) ch_70 len_70 (meets_70 rfl rfl rfl)
  obtain ⟨fd, F⟩ := He.SaysD.defs c.t.d (d := d_71) (by simp [fnl])
  have f := f.step F sc_71 B_71 rfl (He.glo_ok X G0 (fa (.glo "best") (by simp [fal]))) rfl (fun _ _ _ _ _ _ us hl => match us, hl with | [_, _], _ => rfl) ch_71 len_71 (meets_71 rfl rfl rfl rfl rfl rfl rfl rfl)
  have f := f.skip 77 (by kernel_rfl)
  obtain ⟨fd, F⟩ := He.SaysD.defs c.t.d (d := d_77) (by simp [fnl])
  have f := f.step F sc_77 B_77 rfl (He.glo_ok X G0 (fa (.glo "checked_place") (by simp [fal]))) rfl (fun _ _ _ _ _ _ us hl => match us, hl with | [_, _], _ => rfl) ch_77 len_77 (meets_77 rfl rfl)
  have f := f.skip 82 (by kernel_rfl)
  obtain ⟨fd, F⟩ := He.SaysD.defs c.t.d (d := d_82) (by simp [fnl])
  have f := f.step F sc_82 B_82 rfl (He.glo_ok X G0 (fa (.glo "without") (by simp [fal]))) rfl (fun _ _ _ _ _ _ us hl => match us, hl with | [_, _], _ => rfl) ch_82 len_82 (meets_82 rfl)
  obtain ⟨fd, F⟩ := He.SaysD.defs c.t.d (d := d_83) (by simp [fnl])
  have f := f.step F sc_83 B_83 rfl (He.glo_ok X G0 (fa (.glo "with_nought") (by simp [fal]))) rfl (fun _ _ _ _ _ _ us hl => match us, hl with | [_, _], _ => rfl) ch_83 len_83 (meets_83 rfl rfl)
  obtain ⟨fd, F⟩ := He.SaysD.defs c.t.d (d := d_84) (by simp [fnl])
  have f := f.step F sc_84 B_84 rfl (He.glo_ok X G0 (fa (.glo "moved") (by simp [fal]))) rfl (fun _ _ _ _ _ _ us hl => match us, hl with | [_, _, _], _ => rfl) ch_84 len_84 (meets_84 rfl rfl rfl)
  obtain ⟨fd, F⟩ := He.SaysD.defs c.t.d (d := d_85) (by simp [fnl])
  have f := f.step F sc_85 B_85 rfl (He.glo_ok X G0 (fa (.glo "beyond") (by simp [fal]))) rfl (fun _ _ _ _ _ _ us hl => match us, hl with | [_, _, _], _ => rfl) ch_85 len_85 (meets_85 rfl rfl rfl rfl rfl rfl rfl rfl rfl)
  obtain ⟨fd, F⟩ := He.SaysD.defs c.t.d (d := d_86) (by simp [fnl])
  have f := f.step F sc_86 B_86 rfl (He.glo_ok X G0 (fa (.glo "cover") (by simp [fal]))) rfl (fun _ _ _ _ _ _ us hl => match us, hl with | [_, _], _ => rfl) ch_86 len_86 (meets_86 rfl rfl rfl rfl rfl rfl rfl rfl)
  obtain ⟨fd, F⟩ := He.SaysD.defs c.t.d (d := d_87) (by simp [fnl])
  have f := f.step F sc_87 B_87 rfl (He.glo_ok X G0 (fa (.glo "needless") (by simp [fal]))) rfl (fun _ _ _ _ _ _ us hl => match us, hl with | [_, _], _ => rfl) ch_87 len_87 (meets_87 rfl rfl)
  have f := f.skip 92 (by kernel_rfl)
  obtain ⟨fd, F⟩ := He.SaysD.defs c.t.d (d := d_92) (by simp [fnl])
  have f := f.step F sc_92 B_92 rfl (He.glo_ok X G0 (fa (.glo "_law_more") (by simp [fal]))) rfl (fun _ _ _ _ _ _ us hl => match us, hl with | [_, _], _ => rfl) ch_92 len_92 (meets_92 rfl rfl rfl rfl)
  obtain ⟨fd, F⟩ := He.SaysD.defs c.t.d (d := d_93) (by simp [fnl])
  have f := f.step F sc_93 B_93 rfl (He.glo_ok X G0 (fa (.glo "lean") (by simp [fal]))) rfl (fun _ _ _ _ _ _ us hl => match us, hl with | [_], _ => rfl) ch_93 len_93 (meets_93 rfl rfl rfl)
  obtain ⟨fd, F⟩ := He.SaysD.defs c.t.d (d := d_94) (by simp [fnl])
  have f := f.step F sc_94 B_94 rfl (He.glo_ok X G0 (fa (.glo "_law_shown") (by simp [fal]))) rfl (fun _ _ _ _ _ _ us hl => match us, hl with | [_, _, _, _], _ => rfl) ch_94 len_94 (meets_94 rfl rfl rfl)
  exact f
end
end LK.Kk08
open PySem PySem.W PySem.Calls PyProof.Rows
set_option maxRecDepth 100000 in
set_option maxHeartbeats 0 in
theorem PySem.Challenge.cw_limitdesk_k08_lean_desks_holds : PySem.Challenge.rw_limitdesk_k08_lean_desks.Holds := by
  w_on; o_law
  refine HandSHeadRun.head_any (r := OpenLaw.row PySem.Challenge.rw_limitdesk_k08_lean_desks) (q := view (OpenLaw.row PySem.Challenge.rw_limitdesk_k08_lean_desks).prog [79]) (H := LK.Kk08.hk) (ob := LK.Kk08.ob) (M := 5200) (loose := LK.Kk08.loose) (d := HandSHeadRun.topDef (OpenLaw.row PySem.Challenge.rw_limitdesk_k08_lean_desks).prog 79) (kwd := []) LK.Kk08.ob_eq
    (by kernel_rfl) (fun s => by kernel_rfl) LK.Kk08.run (by kernel_rfl) (by kernel_rfl) (by kernel_rfl) (by rfl) (by first | assumption | decide +kernel) (by decide +kernel) ⟨rfl, rfl, rfl, rfl, rfl, by decide +kernel⟩ ?hw ?hc
  case hw => w_witness2
  case hc =>
    refine LK.walk_lk (l := PySem.Challenge.rw_limitdesk_k08_lean_desks) (n := 63) (k := 127) (x := "_law_script") rfl (by decide) (by kernel_rfl) ⟨rfl, by decide, by decide⟩ ?F
    intro w mg fa h Y G hmg0
    obtain ⟨K, KX, c⟩ := Y
    have hmg : mg ("law" : PySem.Str) = some (.ref fa) := by
      have e : (HandSHeadRun.topDef (OpenLaw.row PySem.Challenge.rw_limitdesk_k08_lean_desks).prog 79).name = ("law" : PySem.Str) := by kernel_rfl
      rw [← e]
      exact hmg0
    obtain ⟨fd, F⟩ := He.SaysD.defs c.t.d (d := LK.Kk08.d_95) (by simp [LK.Kk08.fnl])
    have e := hmg.symm.trans (He.glo_ok KX G (He.SaysD.facts c.t.d (f := .glo "law") (by simp [LK.Kk08.fal])))
    cases e
    have b := L2.FunD.bindsA (ps := ["_law_script"]) F fun _ _ _ _ _ _ us hl => match us, hl with | [_], _ => rfl
    refine ⟨K, fd, LK.spOf K (LK.Kk08.S K) 95, KX, fun s v => b s [v] rfl, fun H a ns hl _ hS => LK.law_sp hS rfl (LK.law_95 ns hl), fun base _ _ => ?_⟩
    exact LK.fn_lk (S := (LK.Kk08.S K).upto 95) F LK.Kk08.sc_95 (LK.Kk08.facts (base := base) KX G c) LK.B_95 LK.Kk08.ch_95 LK.len_95 (LK.meets_95 rfl rfl rfl rfl rfl rfl rfl rfl rfl rfl)
#print axioms PySem.Challenge.cw_limitdesk_k08_lean_desks_holds
