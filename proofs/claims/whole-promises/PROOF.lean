import PyProof.Rows.All
import HandS.HeadHook4
import HandS.HeadWalk
import HandS.Words
import KE.KSuper
import HandS.Exc
import PySem.Challenge.RW_skypasses_k81_whole_promises_are_kept
import HandS.Head0
import HandS.Head1
import HandS.Head2
import Wide.All
import OpenK.AllK
import Wide.FinOn
import KE.SortData
import KE.SortKeyHeap
import HandS.ForExc
import HandS.ForMost
import HandS.Wide
import HandS.Star
import HandS.IsInst
import HandS.Property
import HandS.TupAny
import HandS.Deep
import HandS.Lambda
import HandS.Defaults
import HandS.WordsExc
import KE.KAssignIn
import KE.KExcSuper
import HandS.ExcInit
import HandS.ExcIs
import HandS.HotCalls
import PyProof.ReprRoads
import PyProof.Rows.ReprOcc
import PyProof.ReprBulk
set_option Elab.async false
set_option linter.all false
set_option maxRecDepth 100000
set_option maxHeartbeats 4000000
/-! The program's text in parts. Printed by pre.py. -/
namespace Sk
open PySem PySem.Spec PyProof.Rows L2
abbrev Pg : Program := (PySem.Challenge.rw_skypasses_k81_whole_promises_are_kept).prog
def noSt : Stmt := .Pass ⟨0, 0, 0, 0⟩
def top (i : Nat) : Stmt := PySem.Challenge.pw_skypasses_k81_whole_promises_are_kept.main.body.getD i noSt
def clsB : Stmt → List Stmt
  | .ClassDef _ _ _ b _ _ _ _ _ _ _ => b
  | _ => []
def meth (i j : Nat) : Stmt := (clsB (top i)).getD j noSt
/-- the getter of Console.now -/
def nowAd (K : PySem.W.Frag) : Addr := match PySem.W.recIn K (He.ma K (He.ga K "Console") "now") "property" with
  | some (.ref g :: _) => g
  | _ => 0
abbrev st_is_within : Stmt := top 18
abbrev A_is_within (K : PySem.W.Frag) : Addr := He.fAd K ("is_within", none)
abbrev st_check_look : Stmt := top 19
abbrev A_check_look (K : PySem.W.Frag) : Addr := He.fAd K ("check_look", none)
abbrev st_check_ear : Stmt := top 20
abbrev A_check_ear (K : PySem.W.Frag) : Addr := He.fAd K ("check_ear", none)
abbrev st_check_sky : Stmt := top 21
abbrev A_check_sky (K : PySem.W.Frag) : Addr := He.fAd K ("check_sky", none)
abbrev st_end_of : Stmt := top 22
abbrev A_end_of (K : PySem.W.Frag) : Addr := He.fAd K ("end_of", none)
abbrev st_turning : Stmt := top 23
abbrev A_turning (K : PySem.W.Frag) : Addr := He.fAd K ("turning", none)
abbrev st_loss : Stmt := top 24
abbrev A_loss (K : PySem.W.Frag) : Addr := He.fAd K ("loss", none)
abbrev st_emptied : Stmt := top 25
abbrev A_emptied (K : PySem.W.Frag) : Addr := He.fAd K ("emptied", none)
abbrev st_follows : Stmt := top 26
abbrev A_follows (K : PySem.W.Frag) : Addr := He.fAd K ("follows", none)
abbrev st_stored_at : Stmt := top 27
abbrev A_stored_at (K : PySem.W.Frag) : Addr := He.fAd K ("stored_at", none)
abbrev st_level_behind : Stmt := top 28
abbrev A_level_behind (K : PySem.W.Frag) : Addr := He.fAd K ("level_behind", none)
abbrev st_wrong_in : Stmt := top 29
abbrev A_wrong_in (K : PySem.W.Frag) : Addr := He.fAd K ("wrong_in", none)
abbrev st_is_plan : Stmt := top 30
abbrev A_is_plan (K : PySem.W.Frag) : Addr := He.fAd K ("is_plan", none)
abbrev st_worth_of : Stmt := top 31
abbrev A_worth_of (K : PySem.W.Frag) : Addr := He.fAd K ("worth_of", none)
abbrev st_plans_on : Stmt := top 33
abbrev A_plans_on (K : PySem.W.Frag) : Addr := He.fAd K ("plans_on", none)
abbrev st_keeps : Stmt := top 34
abbrev A_keeps (K : PySem.W.Frag) : Addr := He.fAd K ("keeps", none)
abbrev st_keeping : Stmt := top 35
abbrev A_keeping (K : PySem.W.Frag) : Addr := He.fAd K ("keeping", none)
abbrev st_can_keep : Stmt := top 36
abbrev A_can_keep (K : PySem.W.Frag) : Addr := He.fAd K ("can_keep", none)
abbrev st_best_keeping : Stmt := top 37
abbrev A_best_keeping (K : PySem.W.Frag) : Addr := He.fAd K ("best_keeping", none)
abbrev st_parts_of : Stmt := top 38
abbrev A_parts_of (K : PySem.W.Frag) : Addr := He.fAd K ("parts_of", none)
abbrev st_clash_of : Stmt := top 39
abbrev A_clash_of (K : PySem.W.Frag) : Addr := He.fAd K ("clash_of", none)
abbrev st_with_late : Stmt := top 40
abbrev A_with_late (K : PySem.W.Frag) : Addr := He.fAd K ("with_late", none)
abbrev st_copied : Stmt := top 42
abbrev A_copied (K : PySem.W.Frag) : Addr := He.fAd K ("copied", none)
abbrev st_State___init__ : Stmt := meth 43 0
abbrev A_State___init__ (K : PySem.W.Frag) : Addr := He.fAd K ("State", some "__init__")
abbrev st_Console___init__ : Stmt := meth 44 0
abbrev A_Console___init__ (K : PySem.W.Frag) : Addr := He.fAd K ("Console", some "__init__")
abbrev st_Console__state : Stmt := meth 44 1
abbrev A_Console__state (K : PySem.W.Frag) : Addr := He.fAd K ("Console", some "_state")
abbrev st_Console__enter : Stmt := meth 44 2
abbrev A_Console__enter (K : PySem.W.Frag) : Addr := He.fAd K ("Console", some "_enter")
abbrev st_Console_go : Stmt := meth 44 3
abbrev A_Console_go (K : PySem.W.Frag) : Addr := He.fAd K ("Console", some "go")
abbrev st_Console_wish : Stmt := meth 44 4
abbrev A_Console_wish (K : PySem.W.Frag) : Addr := He.fAd K ("Console", some "wish")
abbrev st_Console__check_wish : Stmt := meth 44 5
abbrev A_Console__check_wish (K : PySem.W.Frag) : Addr := He.fAd K ("Console", some "_check_wish")
abbrev st_Console_promise : Stmt := meth 44 6
abbrev A_Console_promise (K : PySem.W.Frag) : Addr := He.fAd K ("Console", some "promise")
abbrev st_Console_release : Stmt := meth 44 7
abbrev A_Console_release (K : PySem.W.Frag) : Addr := He.fAd K ("Console", some "release")
abbrev st_Console_lose : Stmt := meth 44 8
abbrev A_Console_lose (K : PySem.W.Frag) : Addr := He.fAd K ("Console", some "lose")
abbrev st_Console_sky : Stmt := meth 44 14
abbrev A_Console_sky (K : PySem.W.Frag) : Addr := He.fAd K ("Console", some "sky")
abbrev st_Console_begun : Stmt := meth 44 15
abbrev A_Console_begun (K : PySem.W.Frag) : Addr := He.fAd K ("Console", some "begun")
abbrev st_Console_promises : Stmt := meth 44 16
abbrev A_Console_promises (K : PySem.W.Frag) : Addr := He.fAd K ("Console", some "promises")
abbrev st_Console_plan : Stmt := meth 44 17
abbrev A_Console_plan (K : PySem.W.Frag) : Addr := He.fAd K ("Console", some "plan")
abbrev st_Console_worth : Stmt := meth 44 18
abbrev A_Console_worth (K : PySem.W.Frag) : Addr := He.fAd K ("Console", some "worth")
abbrev st_Console_now : Stmt := meth 44 20
abbrev A_Console_now (K : PySem.W.Frag) : Addr := nowAd K
abbrev st_law_draws : Stmt := top 46
abbrev A_law_draws (K : PySem.W.Frag) : Addr := He.fAd K ("_law_draws", none)
abbrev st_law_sky : Stmt := top 47
abbrev A_law_sky (K : PySem.W.Frag) : Addr := He.fAd K ("_law_sky", none)
abbrev st_law_turn : Stmt := top 48
abbrev A_law_turn (K : PySem.W.Frag) : Addr := He.fAd K ("_law_turn", none)
abbrev st_law_worth : Stmt := top 49
abbrev A_law_worth (K : PySem.W.Frag) : Addr := He.fAd K ("_law_worth", none)
abbrev st_law_loss : Stmt := top 50
abbrev A_law_loss (K : PySem.W.Frag) : Addr := He.fAd K ("_law_loss", none)
abbrev st_law_level : Stmt := top 51
abbrev A_law_level (K : PySem.W.Frag) : Addr := He.fAd K ("_law_level", none)
abbrev st_law_plans_on : Stmt := top 52
abbrev A_law_plans_on (K : PySem.W.Frag) : Addr := He.fAd K ("_law_plans_on", none)
abbrev st_law_keep : Stmt := top 53
abbrev A_law_keep (K : PySem.W.Frag) : Addr := He.fAd K ("_law_keep", none)
abbrev st_law_best : Stmt := top 54
abbrev A_law_best (K : PySem.W.Frag) : Addr := He.fAd K ("_law_best", none)
abbrev st_law_deed : Stmt := top 60
abbrev A_law_deed (K : PySem.W.Frag) : Addr := He.fAd K ("_law_deed", none)
abbrev st_law_class : Stmt := top 61
abbrev A_law_class (K : PySem.W.Frag) : Addr := He.fAd K ("_law_class", none)
abbrev st_law_do : Stmt := top 62
abbrev A_law_do (K : PySem.W.Frag) : Addr := He.fAd K ("_law_do", none)
abbrev st_law_lost : Stmt := top 63
abbrev A_law_lost (K : PySem.W.Frag) : Addr := He.fAd K ("_law_lost", none)
abbrev st_law : Stmt := top 64
abbrev A_law (K : PySem.W.Frag) : Addr := He.fAd K ("law", none)
abbrev stE_BadSize : Stmt := meth 3 0
abbrev stE_BadNumber : Stmt := meth 4 0
abbrev stE_BadWish : Stmt := meth 5 0
abbrev stE_BadTime : Stmt := meth 6 0
abbrev stE_BadEar : Stmt := meth 7 0
abbrev stE_NotSo : Stmt := meth 8 0
abbrev stE_Clash : Stmt := meth 11 0
end Sk
set_option Elab.async false
set_option linter.all false
set_option maxRecDepth 100000
set_option maxHeartbeats 0
/-! What the head tells. Printed by hd.py. -/
namespace Sk
open PySem PySem.Spec PyProof.Rows L2 He
def hdFn0 : List DefD := [⟨("is_within", none), "is_within", "is_within", defArgs st_is_within, defBody st_is_within, defScope st_is_within, [], []⟩,
  ⟨("check_look", none), "check_look", "check_look", defArgs st_check_look, defBody st_check_look, defScope st_check_look, [], []⟩,
  ⟨("check_ear", none), "check_ear", "check_ear", defArgs st_check_ear, defBody st_check_ear, defScope st_check_ear, [], []⟩,
  ⟨("check_sky", none), "check_sky", "check_sky", defArgs st_check_sky, defBody st_check_sky, defScope st_check_sky, [], []⟩,
  ⟨("end_of", none), "end_of", "end_of", defArgs st_end_of, defBody st_end_of, defScope st_end_of, [], []⟩,
  ⟨("turning", none), "turning", "turning", defArgs st_turning, defBody st_turning, defScope st_turning, [], []⟩,
  ⟨("loss", none), "loss", "loss", defArgs st_loss, defBody st_loss, defScope st_loss, [], []⟩,
  ⟨("emptied", none), "emptied", "emptied", defArgs st_emptied, defBody st_emptied, defScope st_emptied, [], []⟩,
  ⟨("follows", none), "follows", "follows", defArgs st_follows, defBody st_follows, defScope st_follows, [], []⟩,
  ⟨("stored_at", none), "stored_at", "stored_at", defArgs st_stored_at, defBody st_stored_at, defScope st_stored_at, [], []⟩,
  ⟨("level_behind", none), "level_behind", "level_behind", defArgs st_level_behind, defBody st_level_behind, defScope st_level_behind, [], []⟩,
  ⟨("wrong_in", none), "wrong_in", "wrong_in", defArgs st_wrong_in, defBody st_wrong_in, defScope st_wrong_in, [], []⟩,
  ⟨("is_plan", none), "is_plan", "is_plan", defArgs st_is_plan, defBody st_is_plan, defScope st_is_plan, [], []⟩,
  ⟨("worth_of", none), "worth_of", "worth_of", defArgs st_worth_of, defBody st_worth_of, defScope st_worth_of, [], []⟩,
  ⟨("plans_on", none), "plans_on", "plans_on", defArgs st_plans_on, defBody st_plans_on, defScope st_plans_on, [], []⟩,
  ⟨("keeps", none), "keeps", "keeps", defArgs st_keeps, defBody st_keeps, defScope st_keeps, [], []⟩,
  ⟨("keeping", none), "keeping", "keeping", defArgs st_keeping, defBody st_keeping, defScope st_keeping, [], []⟩,
  ⟨("can_keep", none), "can_keep", "can_keep", defArgs st_can_keep, defBody st_can_keep, defScope st_can_keep, [], []⟩,
  ⟨("best_keeping", none), "best_keeping", "best_keeping", defArgs st_best_keeping, defBody st_best_keeping, defScope st_best_keeping, [], []⟩,
  ⟨("parts_of", none), "parts_of", "parts_of", defArgs st_parts_of, defBody st_parts_of, defScope st_parts_of, [], []⟩,
  ⟨("clash_of", none), "clash_of", "clash_of", defArgs st_clash_of, defBody st_clash_of, defScope st_clash_of, [], []⟩,
  ⟨("with_late", none), "with_late", "with_late", defArgs st_with_late, defBody st_with_late, defScope st_with_late, [], []⟩,
  ⟨("copied", none), "copied", "copied", defArgs st_copied, defBody st_copied, defScope st_copied, [], []⟩,
  ⟨("State", some "__init__"), "__init__", "State.__init__", defArgs st_State___init__, defBody st_State___init__, defScope st_State___init__, [], []⟩,
  ⟨("Console", some "__init__"), "__init__", "Console.__init__", defArgs st_Console___init__, defBody st_Console___init__, defScope st_Console___init__, [], []⟩,
  ⟨("Console", some "_state"), "_state", "Console._state", defArgs st_Console__state, defBody st_Console__state, defScope st_Console__state, [], []⟩,
  ⟨("Console", some "_enter"), "_enter", "Console._enter", defArgs st_Console__enter, defBody st_Console__enter, defScope st_Console__enter, [], []⟩,
  ⟨("Console", some "go"), "go", "Console.go", defArgs st_Console_go, defBody st_Console_go, defScope st_Console_go, [], []⟩,
  ⟨("Console", some "wish"), "wish", "Console.wish", defArgs st_Console_wish, defBody st_Console_wish, defScope st_Console_wish, [], []⟩,
  ⟨("Console", some "_check_wish"), "_check_wish", "Console._check_wish", defArgs st_Console__check_wish, defBody st_Console__check_wish, defScope st_Console__check_wish, [], []⟩]
def hdFn1 : List DefD := [⟨("Console", some "promise"), "promise", "Console.promise", defArgs st_Console_promise, defBody st_Console_promise, defScope st_Console_promise, [], []⟩,
  ⟨("Console", some "release"), "release", "Console.release", defArgs st_Console_release, defBody st_Console_release, defScope st_Console_release, [], []⟩,
  ⟨("Console", some "lose"), "lose", "Console.lose", defArgs st_Console_lose, defBody st_Console_lose, defScope st_Console_lose, [], []⟩,
  ⟨("Console", some "sky"), "sky", "Console.sky", defArgs st_Console_sky, defBody st_Console_sky, defScope st_Console_sky, [], []⟩,
  ⟨("Console", some "begun"), "begun", "Console.begun", defArgs st_Console_begun, defBody st_Console_begun, defScope st_Console_begun, [], []⟩,
  ⟨("Console", some "promises"), "promises", "Console.promises", defArgs st_Console_promises, defBody st_Console_promises, defScope st_Console_promises, [], []⟩,
  ⟨("Console", some "plan"), "plan", "Console.plan", defArgs st_Console_plan, defBody st_Console_plan, defScope st_Console_plan, [], []⟩,
  ⟨("Console", some "worth"), "worth", "Console.worth", defArgs st_Console_worth, defBody st_Console_worth, defScope st_Console_worth, [], []⟩,
  ⟨("_law_draws", none), "_law_draws", "_law_draws", defArgs st_law_draws, defBody st_law_draws, defScope st_law_draws, [], []⟩,
  ⟨("_law_sky", none), "_law_sky", "_law_sky", defArgs st_law_sky, defBody st_law_sky, defScope st_law_sky, [], []⟩,
  ⟨("_law_turn", none), "_law_turn", "_law_turn", defArgs st_law_turn, defBody st_law_turn, defScope st_law_turn, [], []⟩,
  ⟨("_law_worth", none), "_law_worth", "_law_worth", defArgs st_law_worth, defBody st_law_worth, defScope st_law_worth, [], []⟩,
  ⟨("_law_loss", none), "_law_loss", "_law_loss", defArgs st_law_loss, defBody st_law_loss, defScope st_law_loss, [], []⟩,
  ⟨("_law_level", none), "_law_level", "_law_level", defArgs st_law_level, defBody st_law_level, defScope st_law_level, [], []⟩,
  ⟨("_law_plans_on", none), "_law_plans_on", "_law_plans_on", defArgs st_law_plans_on, defBody st_law_plans_on, defScope st_law_plans_on, [], []⟩,
  ⟨("_law_keep", none), "_law_keep", "_law_keep", defArgs st_law_keep, defBody st_law_keep, defScope st_law_keep, [], []⟩,
  ⟨("_law_best", none), "_law_best", "_law_best", defArgs st_law_best, defBody st_law_best, defScope st_law_best, [], []⟩,
  ⟨("_law_deed", none), "_law_deed", "_law_deed", defArgs st_law_deed, defBody st_law_deed, defScope st_law_deed, [], []⟩,
  ⟨("_law_class", none), "_law_class", "_law_class", defArgs st_law_class, defBody st_law_class, defScope st_law_class, [], []⟩,
  ⟨("_law_do", none), "_law_do", "_law_do", defArgs st_law_do, defBody st_law_do, defScope st_law_do, [], []⟩,
  ⟨("_law_lost", none), "_law_lost", "_law_lost", defArgs st_law_lost, defBody st_law_lost, defScope st_law_lost, [], []⟩,
  ⟨("law", none), "law", "law", defArgs st_law, defBody st_law, defScope st_law, [], []⟩]
def hdFn : List DefD := hdFn0 ++ hdFn1
def hdFa0 : List Fa := [.glo "is_within", .glo "check_look", .glo "check_ear", .glo "check_sky", .glo "end_of", .glo "turning", .glo "loss", .glo "emptied", .glo "follows", .glo "stored_at", .glo "level_behind", .glo "wrong_in", .glo "is_plan", .glo "worth_of", .glo "plans_on", .glo "keeps", .glo "keeping", .glo "can_keep", .glo "best_keeping", .glo "parts_of", .glo "clash_of", .glo "with_late", .glo "copied", .glo "_law_draws", .glo "_law_sky", .glo "_law_turn", .glo "_law_worth", .glo "_law_loss", .glo "_law_level", .glo "_law_plans_on"]
def hdFa1 : List Fa := [.glo "_law_keep", .glo "_law_best", .glo "_law_deed", .glo "_law_class", .glo "_law_do", .glo "_law_lost", .glo "law", .free "abs", .free "all", .free "any", .free "bool", .free "enumerate", .free "int", .free "isinstance", .free "len", .free "list", .free "max", .free "min", .free "range", .free "repr", .free "sorted", .free "sum", .free "tuple", .free "super", .int "MOST_LOOKS" 16, .int "MOST_WISHES" 6, .int "MOST_EARS" 4, .int "LAST" 200, .glo "State", .cls "State"]
def hdFa2 : List Fa := [.mkr "State", .glo "Console", .cls "Console", .mkr "Console", .noat "State" "sky", .noat "State" "time", .noat "State" "begun", .noat "State" "promises", .noat "State" "worth", .noat "State" "plan", .noat "Console" "_states", .noat "Console" "_at", .noat "Console" "_entries", .meth "Console" "_state", .meth "Console" "_enter", .meth "Console" "go", .meth "Console" "wish", .meth "Console" "_check_wish", .meth "Console" "promise", .meth "Console" "release", .meth "Console" "lose", .meth "Console" "sky", .meth "Console" "begun", .meth "Console" "promises", .meth "Console" "plan", .meth "Console" "worth", .glo "BadSize", .glo "BadNumber", .glo "BadWish", .glo "BadTime"]
def hdFa3 : List Fa := [.glo "BadEar", .glo "NotSo", .glo "Clash", .glo "NothingToUndo", .glo "NothingToRedo", .glo "BadEntry", .glo "SkyError"]
def hdFa : List Fa := hdFa0 ++ hdFa1 ++ hdFa2 ++ hdFa3
def errN : List Str := ["BadSize", "BadNumber", "BadWish", "BadTime", "BadEar", "NotSo", "Clash"]
def ecF (K : PySem.W.Frag) (c : Nat) : Addr := ga K (errN.getD c "")
def hdTf : List Defn := [("parts_of", none), ("with_late", none)]
/-- a def by its address -/
abbrev InV : Type := Option (Str × Str × Arguments × FuncBody × Scope × Addr × Value × Addr)
def inO (K : PySem.W.Frag) (f : Addr) : InV := match K.lookup f with
  | some ⟨_, _, .func d, _⟩ => some (d.name, d.qualname, d.params, d.body, d.scope, d.globals, d.defaults, d.builtins)
  | _ => none
def inW (name qual : Str) (st : Stmt) : InV := some (name, qual, defArgs st, .stmts (defBody st), defScope st, mainGlobals, .none, builtinsNs)
/-- the closure's cell holds the class; the code's text, file -/
def cellB (K : PySem.W.Frag) (C f : Addr) (qual : Str) : Bool := match K.lookup f with
  | some ⟨_, _, .func d, _⟩ => (match d.closure with
    | [(x, cc)] => decide (x = "__class__") && (match K.lookup cc with
      | some ⟨_, _, .cell (some (.ref D)), _⟩ => decide (D = C)
      | _ => false)
    | _ => false) && (PySem.W.codeIn K d.code qual && (match d.code with
    | .ref cda => (match K.lookup cda with
      | some ⟨_, _, .fields vs, _⟩ => (match (vs[2]? : Option Value) with
        | some (.str file _) => ((Pg.main.file : Str) == file)
        | _ => false)
      | _ => false)
    | _ => false))
  | _ => false
def plainB (K : PySem.W.Frag) (f : Addr) (qual : Str) : Bool := PySem.W.keepIn K (.ref f) && (match K.lookup f with
  | some ⟨_, _, .func d, _⟩ => PySem.W.codeIn K d.code qual && d.closure.isEmpty
  | _ => false)
def excB (K : PySem.W.Frag) (C : Addr) : Bool := match K.lookup C with
  | some ⟨.type t, _, .cls cd, sl⟩ => decide (t = "type") && (match cd.mro, sl.toList with
    | .ref D :: bm, [_, _, _, _, some (.builtin n), _] => decide (D = C) && (decide (n = "ValueError.__new__") && (!cd.hasDel && (cd.hasDict && HandSPX.refsVE bm)))
    | _, _ => false)
  | _ => false
def skyB (K : PySem.W.Frag) (x : Str) : Bool := excB K (ga K x) && (eqO (PySem.W.ks_superIn K (ga K x) (ga K x) "__init__") (some (some (.builtin "ValueError.__init__"))) &&
  (eqO (PySem.W.findIn K (.ref (ga K x)) "__init__") (some (some (.ref (ma K (ga K x) "__init__")))) && (decide (PySem.W.typeIn K (.ref (ma K (ga K x) "__init__")) = some (.type "function")) &&
  (PySem.W.keepIn K (.ref (ga K x)) && (decide (PySem.W.subIn K (.ref (ga K x)) (.type "BaseException") = some true) && (decide (PySem.W.subIn K (.ref (ga K x)) (.type "ValueError") = some true) &&
  (decide (PySem.W.typeIn K (.ref (ga K x)) = some (.type "type")) && (decide (PySem.W.mroIn K (ga K x) (.ref (ga K x)) = some true) && (eqO (PySem.W.nsIn K cStatics "thirdparty.any") (some none) &&
  cellB K (ga K x) (ma K (ga K x) "__init__") (x ++ ".__init__"))))))))))
def isaB (K : PySem.W.Frag) (x : Str) : Bool := eqO (PySem.W.findIn K (.ref (ga K x)) "__getattribute__") (some (some (.builtin "BaseException.__getattribute__"))) && (eqO (PySem.W.findIn K (.ref (ga K x)) "__getattr__") (some none) &&
  (decide (PySem.W.subIn K (.ref (ga K x)) (.type "BaseException") = some true) && (PySem.W.hasDictIn K (ga K x) && (eqO (PySem.W.findIn K (.ref (ga K x)) "__class__") (some (some (.builtin "object.__class__"))) &&
  (eqO (PySem.W.specialIn K (.builtin "object.__class__") "__get__") (some (some (.builtin "getset_descriptor.__get__"))) && (decide (PySem.W.takesIn K (.builtin "object.__class__") = some true) && decide (PySem.W.mroIn K (ga K x) (.type "object") = some true)))))))
def kitB (K : PySem.W.Frag) (x : Str) (b : Bool) : Bool := (List.range 7).all fun c => decide (PySem.W.kitOne K (.ref (ecF K c)) (.ref (ga K x)) = some b)
def moreB (K : PySem.W.Frag) : Bool := errN.all (skyB K) && (errN.all (isaB K) && ((List.range 7).all (fun c => (List.range 7).all fun d => decide (PySem.W.kitOne K (.ref (ecF K c)) (.ref (ecF K d)) = some (c == d))) &&
  (kitB K "NothingToUndo" false && (kitB K "NothingToRedo" false && (kitB K "BadEntry" false && (kitB K "SkyError" true && ((List.range 7).all (fun c => decide (PySem.W.exmOne K (.ref (ecF K c)) (.ref (ga K "SkyError")) = some true)) &&
  (eqO (PySem.W.findIn K (.ref (ecF K 6)) "__setattr__") (some (some (.builtin "object.__setattr__"))) && (eqO (PySem.W.findIn K (.ref (ecF K 6)) "wishes") (some none) && (!decide ((cT K ("parts_of", none)).2 = (cT K ("with_late", none)).2) &&
  (!decide (ga K "State" = ga K "Console") && (eqO (PySem.W.findIn K (.ref (ga K "Console")) "now") (some (some (.ref (ma K (ga K "Console") "now")))) && (eqO (PySem.W.specialIn K (.ref (ma K (ga K "Console") "now")) "__get__") (some (some (.builtin "property.__get__"))) &&
  (decide (PySem.W.takesIn K (.ref (ma K (ga K "Console") "now")) = some true) && ((match PySem.W.recIn K (ma K (ga K "Console") "now") "property" with
    | some (.ref _ :: _) => true
    | _ => false) && plainB K (nowAd K) "Console.now")))))))))))))))
def inS (K : PySem.W.Frag) : List InV := inO K (nowAd K) :: errN.map fun x => inO K (ma K (ga K x) "__init__")
def inSW : List InV := [inW "now" "Console.now" st_Console_now, inW "__init__" "BadSize.__init__" stE_BadSize, inW "__init__" "BadNumber.__init__" stE_BadNumber, inW "__init__" "BadWish.__init__" stE_BadWish, inW "__init__" "BadTime.__init__" stE_BadTime, inW "__init__" "BadEar.__init__" stE_BadEar, inW "__init__" "NotSo.__init__" stE_NotSo, inW "__init__" "Clash.__init__" stE_Clash]
/-- what is looked at: the module's names, the classes' dicts, what stands in these, all code -/
def kidsA (g : Addr → Option Obj) (a : Addr) : List Addr := match g a with
  | some ⟨_, _, .func d, _⟩ => refV d.code ++ d.closure.map (·.2)
  | some ⟨_, _, .cls d, _⟩ => [d.ns]
  | some ⟨.type c, _, .fields vs, _⟩ => (match decide (c = "property") with
    | true => vs.toList.flatMap refV
    | false => [])
  | _ => []
def dictA (g : Addr → Option Obj) (a : Addr) : List Addr := match g a with
  | some ⟨_, _, .dict es _, _⟩ => es.toList.flatMap fun e => refV e.val
  | _ => []
def hdAs (g : Addr → Option Obj) (A1 A2 A3 A4 : List Addr) : List Addr := cStatics :: mainGlobals :: (A1 ++ (A2 ++ (A3 ++ (A4 ++ A4.flatMap (kidsA g)))))
def hdA2 (g : Addr → Option Obj) : List Addr := (dictA g mainGlobals).flatMap (kidsA g)
def hdA3 (g : Addr → Option Obj) : List Addr := (hdA2 g).flatMap (dictA g)
def hdA4 (g : Addr → Option Obj) : List Addr := (hdA3 g).flatMap (kidsA g)
def hdK (g : Addr → Option Obj) : PySem.W.Frag := frT g (hdAs g (dictA g mainGlobals) (hdA2 g) (hdA3 g) (hdA4 g))
abbrev AlY : Type := AlX × List InV
def obsY (g : Addr → Option Obj) : AlY := ((obsT hdFa hdFn [] (hdK g), moreB (hdK g) && tabsB g hdTf (hdK g)), inS (hdK g))
def valY (w : World) : AlY := (valX hdFn [] w, inSW)
theorem says_hd {w : World} {h : Heap} (e : obsY h.get? = valY w) : SaysX hdFa hdFn [] hdTf moreB w h (hdK h.get?) ∧ inS (hdK h.get?) = inSW := by
  injection e with e1 e4
  injection e1 with e2 e3
  have e5 := Bool.and_eq_true_iff.mp e3
  have tb : ∀ p ∈ hdTf, PySem.W.codeHdIn (hdK h.get?) (cT (hdK h.get?) p).1 (cT (hdK h.get?) p).2 = true ∧ ∃ u, h.get? (cT (hdK h.get?) p).2 = some u ∧ emptyTab u = true := by
    intro p hp
    have z := Bool.and_eq_true_iff.mp (List.all_eq_true.mp e5.2 p hp)
    refine ⟨z.1, ?_⟩
    have z2 := z.2
    split at z2
    · rename_i u hu
      exact ⟨u, hu, z2⟩
    · cases z2
  refine ⟨⟨e2, e5.1, fun p hp => (tb p hp).1, fun p hp => ?_, fun p hp => ?_⟩, e4⟩
  · obtain ⟨u, h1, h2⟩ := (tb p hp).2
    exact frT_none h1 h2
  · obtain ⟨u, h1, h2⟩ := (tb p hp).2
    rw [h1, emptyTab_eq h2]
def hdHook : PySem.W.Hook where
  α := AlY
  obs := fun s => obsY s.heap.get?
  val := valY
  says := fun w h => ∃ K : PySem.W.Frag, K.In h ∧ SaysX hdFa hdFn [] hdTf moreB w h K ∧ inS K = inSW
  of := fun _ _ e => ⟨_, frT_in, says_hd e⟩
  keeps := fun _ _ _ ⟨K, hK, c, d⟩ k => ⟨K, PySem.W.Frag.In.keeps hK k, ⟨c.t, c.more, c.hd, c.out, fun p hp => k _ _ (c.empty p hp)⟩, d⟩
abbrev hdR : PySem.W.OpenRow := PySem.W.OpenLaw.row PySem.Challenge.rw_skypasses_k81_whole_promises_are_kept
abbrev hdV : Program := PySem.W.view hdR.prog [64]
def hdOb (s : PySem.W.SharedT) : AlY := obsY (HandSHeadRun.getT s)
theorem hdOb_eq (s : PySem.W.SharedT) : hdOb s = hdHook.obs s.abs := by
  have e : HandSHeadRun.getT s = s.abs.heap.get? := funext (HandSHeadRun.getT_eq s)
  unfold hdOb
  rw [e]
  rfl
def hdN0 : List Str := ["_wall", "SkyError", "BadSize", "BadNumber", "BadWish", "BadTime", "BadEar", "NotSo", "NothingToUndo", "NothingToRedo", "Clash", "BadEntry", "MOST_LOOKS", "MOST_WISHES", "MOST_EARS", "LAST", "is_within", "check_look", "check_ear", "check_sky", "end_of", "turning", "loss", "emptied", "follows", "stored_at", "level_behind", "wrong_in", "is_plan", "worth_of"]
def hdN1 : List Str := ["plans_on", "keeps", "keeping", "can_keep", "best_keeping", "parts_of", "clash_of", "with_late", "copied", "State", "Console", "_law_draws", "_law_sky", "_law_turn", "_law_worth", "_law_loss", "_law_level", "_law_plans_on", "_law_keep", "_law_best", "_law_sets", "_law_clash", "_law_late", "_law_why", "_law_behind", "_law_deed", "_law_class", "_law_do", "_law_lost"]
def hdN : List Str := hdN0 ++ hdN1
end Sk
set_option Elab.async false
set_option linter.all false
set_option maxRecDepth 100000
set_option maxHeartbeats 0
/-! The top's run. -/
namespace Sk
open PySem PySem.Spec PyProof.Rows L2 He
theorem hd_run (w : World) : HandSHeadRun.RunEq hdR hdV hdHook hdOb 6000 hdN w := by
  intro os
  kernel_rfl
end Sk
set_option Elab.async false
set_option linter.all false
set_option maxRecDepth 100000
set_option maxHeartbeats 4000000
/-! The data layer: slots hold data (PyData), a frozen part F of the heap bears them; what a body does is a partial function on the slots' data. -/
namespace Dl
open PySem PySem.Spec PyProof.Rows L2

abbrev Dt := List (Option PyData)
/-- the classes: S of frozen instances, O of the one that changes; the classes of errors by number -/
structure Cl where
  S : Addr
  O : Addr
  ec : Nat → Addr
  er : Option (Addr × Option Addr) := none
  T : List (Addr × Str) := []

def Ext (H H' : Hp) : Prop := ∀ a o, H a = some o → H' a = some o
theorem Ext.refl (H : Hp) : Ext H H := fun _ _ h => h
theorem Ext.trans {A B C : Hp} (x : Ext A B) (y : Ext B C) : Ext A C := fun a o h => y a o (x a o h)
theorem Ext.new {H : Hp} {p : Addr} {o : HO} (h : H p = none) : Ext H (upd H p o) := fun a u e => by
  rw [upd_ne (ne_of_none e h)]
  exact e
theorem Ext.mut {H H' : Hp} {p : Addr} {o : HO} (e : Ext H H') (h : H p = none) : Ext H (upd H' p o) := fun a u ha => by
  rw [upd_ne (ne_of_none ha h)]
  exact e a u ha
theorem Ext.back {H H' : Hp} {p : Addr} (e : Ext H H') (h : H' p = none) : H p = none := by
  cases q : H p with
  | none => rfl
  | some o =>
    rw [e p o q] at h
    cases h

mutual
inductive Rp (k : Cl) (F : Hp) : V → PyData → Prop
  | non : Rp k F .non .none
  | bl (b : Bool) : Rp k F (.bl b) (.bool b)
  | int (i : Int) : Rp k F (.int i) (.int i)
  | str (x : Str) : Rp k F (.str x) (.str x)
  | lst {a : Addr} {xs : List V} {ds : List PyData} : F a = some (.lst xs) → RpA k F xs ds → Rp k F (.ref a) (.list ds)
  | tup {a : Addr} {xs : List V} {ds : List PyData} : F a = some (.tup xs) → RpA k F xs ds → Rp k F (.ref a) (.tuple ds)
  | ins {a dx : Addr} {fs : List (Str × V)} {kvs : List (PyData × PyData)} : F a = some (.ins k.S dx fs) → RpF k F fs kvs → Rp k F (.ref a) (.dict ((.none, .int 0) :: kvs))
  | own {a dx : Addr} {fs : List (Str × V)} {kvs : List (PyData × PyData)} : F a = some (.ins k.O dx fs) → RpF k F fs kvs → Rp k F (.ref a) (.dict ((.none, .int 1) :: kvs))
  | err {a : Addr} {dd : Option Addr} : k.er = some (a, dd) → (∀ d, dd = some d → ∃ fs, F d = some (.xd fs)) → Rp k F (.ref a) (.dict [(.none, .int 2)])
inductive RpA (k : Cl) (F : Hp) : List V → List PyData → Prop
  | nil : RpA k F [] []
  | cons {v : V} {vs : List V} {d : PyData} {ds : List PyData} : Rp k F v d → RpA k F vs ds → RpA k F (v :: vs) (d :: ds)
inductive RpF (k : Cl) (F : Hp) : List (Str × V) → List (PyData × PyData) → Prop
  | nil : RpF k F [] []
  | cons {n : Str} {v : V} {fs : List (Str × V)} {d : PyData} {kvs : List (PyData × PyData)} : Rp k F v d → RpF k F fs kvs → RpF k F ((n, v) :: fs) ((.str n, d) :: kvs)
end
section
variable {k : Cl} {F F' : Hp}
mutual
theorem Rp.mono (e : Ext F F') : ∀ {v : V} {d : PyData}, Rp k F v d → Rp k F' v d
  | _, _, .non => .non
  | _, _, .bl b => .bl b
  | _, _, .int i => .int i
  | _, _, .str x => .str x
  | _, _, .lst h r => .lst (e _ _ h) (RpA.mono e r)
  | _, _, .tup h r => .tup (e _ _ h) (RpA.mono e r)
  | _, _, .ins h r => .ins (e _ _ h) (RpF.mono e r)
  | _, _, .own h r => .own (e _ _ h) (RpF.mono e r)
  | _, _, .err h r => .err h fun d z => let ⟨o, y⟩ := r d z; ⟨o, e _ _ y⟩
theorem RpA.mono (e : Ext F F') : ∀ {vs : List V} {ds : List PyData}, RpA k F vs ds → RpA k F' vs ds
  | _, _, .nil => .nil
  | _, _, .cons h r => .cons (Rp.mono e h) (RpA.mono e r)
theorem RpF.mono (e : Ext F F') : ∀ {fs : List (Str × V)} {kvs : List (PyData × PyData)}, RpF k F fs kvs → RpF k F' fs kvs
  | _, _, .nil => .nil
  | _, _, .cons h r => .cons (Rp.mono e h) (RpF.mono e r)
end
theorem RpA.length : ∀ {vs : List V} {ds : List PyData}, RpA k F vs ds → vs.length = ds.length
  | _, _, .nil => rfl
  | _, _, .cons _ r => congrArg Nat.succ (RpA.length r)
theorem RpA.get : ∀ {vs : List V} {ds : List PyData} {i : Nat} {v : V}, RpA k F vs ds → vs[i]? = some v → ∃ d, ds[i]? = some d ∧ Rp k F v d
  | _, _, _, _, .nil, e => by simp at e
  | _, _, 0, _, .cons r _, e => by simp at e; subst e; exact ⟨_, rfl, r⟩
  | _, _, i + 1, v, .cons _ t, e => by
    obtain ⟨u, h1, h2⟩ := RpA.get (i := i) (v := v) t (by simpa using e)
    exact ⟨u, by simpa using h1, h2⟩
theorem RpA.getD : ∀ {vs : List V} {ds : List PyData} {i : Nat} {d : PyData}, RpA k F vs ds → ds[i]? = some d → ∃ v, vs[i]? = some v ∧ Rp k F v d
  | _, _, _, _, .nil, e => by simp at e
  | _, _, 0, _, .cons r _, e => by simp at e; subst e; exact ⟨_, rfl, r⟩
  | _, _, i + 1, v, .cons _ t, e => by
    obtain ⟨u, h1, h2⟩ := RpA.getD (i := i) (d := v) t (by simpa using e)
    exact ⟨u, by simpa using h1, h2⟩
theorem RpA.append : ∀ {vs us : List V} {ds es : List PyData}, RpA k F vs ds → RpA k F us es → RpA k F (vs ++ us) (ds ++ es)
  | _, _, _, _, .nil, s => s
  | _, _, _, _, .cons r t, s => .cons r (RpA.append t s)
theorem RpA.snoc {vs : List V} {ds : List PyData} {v : V} {d : PyData} (h : RpA k F vs ds) (r : Rp k F v d) : RpA k F (vs ++ [v]) (ds ++ [d]) := h.append (.cons r .nil)
theorem RpA.take : ∀ {vs : List V} {ds : List PyData} (n : Nat), RpA k F vs ds → RpA k F (vs.take n) (ds.take n)
  | _, _, 0, _ => .nil
  | _, _, _ + 1, .nil => .nil
  | _, _, n + 1, .cons r t => .cons r (RpA.take n t)
theorem RpA.drop : ∀ {vs : List V} {ds : List PyData} (n : Nat), RpA k F vs ds → RpA k F (vs.drop n) (ds.drop n)
  | _, _, 0, r => r
  | _, _, _ + 1, .nil => .nil
  | _, _, n + 1, .cons r t => RpA.drop n t
theorem RpA.set {v : V} {d : PyData} (h : Rp k F v d) : ∀ {vs : List V} {ds : List PyData} (n : Nat), RpA k F vs ds → RpA k F (vs.set n v) (ds.set n d)
  | _, _, _, .nil => .nil
  | _, _, 0, .cons _ t => .cons h t
  | _, _, n + 1, .cons r t => .cons r (RpA.set h n t)
/-- a field among an instance's data -/
def getF (n : Str) : List (PyData × PyData) → Option PyData
  | [] => none
  | (.str m, d) :: r => if n = m then some d else getF n r
  | _ :: r => getF n r
def putD (n : Str) (d : PyData) : List (PyData × PyData) → List (PyData × PyData)
  | [] => [(.str n, d)]
  | (.str m, e) :: r => if m = n then (.str m, d) :: r else (.str m, e) :: putD n d r
  | p :: r => p :: putD n d r
theorem RpF.lookup : ∀ {fs : List (Str × V)} {kvs : List (PyData × PyData)} {n : Str} {d : PyData}, RpF k F fs kvs → getF n kvs = some d → ∃ v, fs.lookup n = some v ∧ Rp k F v d := by
  intro fs
  induction fs with
  | nil => intro kvs n d r e; cases r; cases e
  | cons p fs ih =>
    intro kvs n d r e
    cases r with
    | @cons m v _ d' kvs' r1 r2 =>
      have e : (if n = m then some d' else getF n kvs') = some d := e
      by_cases h : n = m
      · subst h
        rw [if_pos rfl] at e
        cases e
        exact ⟨v, by simp [List.lookup], r1⟩
      · rw [if_neg h] at e
        have e1 : (n == m) = false := by simpa using h
        obtain ⟨u, q1, q2⟩ := ih r2 e
        exact ⟨u, by simpa [List.lookup, e1] using q1, q2⟩
theorem RpF.put {n : Str} {v : V} {d : PyData} (h : Rp k F v d) : ∀ {fs : List (Str × V)} {kvs : List (PyData × PyData)}, RpF k F fs kvs → RpF k F (putF n v fs) (putD n d kvs) := by
  intro fs
  induction fs with
  | nil => intro kvs r; cases r; exact .cons h .nil
  | cons p fs ih =>
    intro kvs r
    cases r with
    | @cons m u _ d' kvs' r1 r2 =>
      show RpF k F (if m = n then (m, v) :: fs else (m, u) :: putF n v fs) (if m = n then (.str m, d) :: kvs' else (.str m, d') :: putD n d kvs')
      by_cases e : m = n
      · rw [if_pos e, if_pos e]
        exact .cons h r2
      · rw [if_neg e, if_neg e]
        exact .cons r1 (ih r2)
theorem RpF.length : ∀ {fs : List (Str × V)} {kvs : List (PyData × PyData)}, RpF k F fs kvs → fs.length = kvs.length
  | _, _, .nil => rfl
  | _, _, .cons _ r => congrArg Nat.succ (RpF.length r)

/-! ### from data to the library's data -/
mutual
/-- no instance in it -/
def plain : PyData → Bool
  | .none | .bool _ | .int _ | .str _ => true
  | .list l => plainAll l
  | .tuple l => plainAll l
  | .dict _ => false
def plainAll : List PyData → Bool
  | [] => true
  | d :: r => plain d && plainAll r
end
mutual
theorem Rp.dp {K : PySem.W.Frag} : ∀ {v : V} {d : PyData}, Rp k F v d → plain d = true → Dp K F v d
  | _, _, .non, _ => .non
  | _, _, .bl b, _ => .bl b
  | _, _, .int i, _ => .int i
  | _, _, .str x, _ => .str x
  | _, _, .lst h r, p => .lst (SqL.of h) (RpA.dp r (by simpa [plain] using p))
  | _, _, .tup h r, p => .tup (SqT.of h) (RpA.dp r (by simpa [plain] using p))
  | _, _, .ins _ _, p => by simp [plain] at p
  | _, _, .own _ _, p => by simp [plain] at p
  | _, _, .err _ _, p => by simp [plain] at p
theorem RpA.dp {K : PySem.W.Frag} : ∀ {vs : List V} {ds : List PyData}, RpA k F vs ds → plainAll ds = true → DpAll K F vs ds
  | _, _, .nil, _ => .nil
  | _, _, .cons h r, p => by
    rw [plainAll, Bool.and_eq_true] at p
    exact .cons (Rp.dp h p.1) (RpA.dp r p.2)
end
def tagOk (a d : PyData) : Bool := match a with
  | .none => (match d with
    | .int i => i != 1 && i != 2
    | _ => true)
  | _ => true
mutual
/-- the changing instance is nowhere in it -/
def noO : PyData → Bool
  | .none | .bool _ | .int _ | .str _ => true
  | .list l => noOA l
  | .tuple l => noOA l
  | .dict kvs => noOK kvs
def noOA : List PyData → Bool
  | [] => true
  | d :: r => noO d && noOA r
def noOK : List (PyData × PyData) → Bool
  | [] => true
  | (a, d) :: r => tagOk a d && noO d && noOK r
end
end

section
variable {k : Cl} {F : Hp} {p : Addr} {dx : Addr} {fs0 : List (Str × V)}
/-- without the object at p -/
noncomputable def cutH (F : Hp) (P : Addr → Prop) : Hp := fun a => open Classical in if P a then none else F a
theorem cutH_no {F : Hp} {P : Addr → Prop} {a : Addr} (h : P a) : cutH F P a = none := if_pos h
theorem cutH_yes {F : Hp} {P : Addr → Prop} {a : Addr} (h : ¬ P a) : cutH F P a = F a := if_neg h
mutual
theorem Rp.cut {P : Addr → Prop} (hP : ∀ a, P a → ∃ dx fs, F a = some (.ins k.O dx fs)) (hk : k.S ≠ k.O) : ∀ {v : V} {d : PyData}, Rp k F v d → noO d = true → Rp k (cutH F P) v d
  | _, _, .non, _ => .non
  | _, _, .bl b, _ => .bl b
  | _, _, .int i, _ => .int i
  | _, _, .str x, _ => .str x
  | _, _, .lst h r, z => .lst ((cutH_yes fun q => by obtain ⟨_, _, e⟩ := hP _ q; rw [h] at e; cases e).trans h) (RpA.cut hP hk r (by simpa [noO] using z))
  | _, _, .tup h r, z => .tup ((cutH_yes fun q => by obtain ⟨_, _, e⟩ := hP _ q; rw [h] at e; cases e).trans h) (RpA.cut hP hk r (by simpa [noO] using z))
  | _, _, .ins h r, z => .ins ((cutH_yes fun q => by
      obtain ⟨_, _, e⟩ := hP _ q
      rw [h] at e
      have e1 := Option.some.inj e
      injection e1 with e2 _ _
      exact hk e2).trans h) (RpF.cut hP hk r (by rw [noO, noOK, Bool.and_eq_true, Bool.and_eq_true] at z; exact z.2))
  | _, _, .own _ _, z => by simp [noO, noOK, tagOk] at z
  | _, _, .err _ _, z => by simp [noO, noOK, tagOk] at z
theorem RpA.cut {P : Addr → Prop} (hP : ∀ a, P a → ∃ dx fs, F a = some (.ins k.O dx fs)) (hk : k.S ≠ k.O) : ∀ {vs : List V} {ds : List PyData}, RpA k F vs ds → noOA ds = true → RpA k (cutH F P) vs ds
  | _, _, .nil, _ => .nil
  | _, _, .cons h r, z => by
    rw [noOA, Bool.and_eq_true] at z
    exact .cons (Rp.cut hP hk h z.1) (RpA.cut hP hk r z.2)
theorem RpF.cut {P : Addr → Prop} (hP : ∀ a, P a → ∃ dx fs, F a = some (.ins k.O dx fs)) (hk : k.S ≠ k.O) : ∀ {fs : List (Str × V)} {kvs : List (PyData × PyData)}, RpF k F fs kvs → noOK kvs = true → RpF k (cutH F P) fs kvs
  | _, _, .nil, _ => .nil
  | _, _, .cons h r, z => by
    rw [noOK, Bool.and_eq_true, Bool.and_eq_true] at z
    exact .cons (Rp.cut hP hk h z.1.2) (RpF.cut hP hk r z.2)
end
def flat : PyData → Bool
  | .none | .bool _ | .int _ | .str _ => true
  | _ => false
theorem Rp.flat {F' : Hp} {v : V} {d : PyData} (r : Rp k F v d) (h : flat d = true) : Rp k F' v d := by
  cases r with
  | non => exact .non
  | bl b => exact .bl b
  | int i => exact .int i
  | str x => exact .str x
  | lst _ _ => cases h
  | tup _ _ => cases h
  | ins _ _ => cases h
  | own _ _ => cases h
  | err _ _ => cases h
end

/-! ### steps: the heap H and its frozen part F grow; tables of code objects may be written -/
abbrev Tb := List (Addr × Str)
def NT (o : HO) : Prop := ∀ ps, o ≠ .tbl ps
/-- neither a table nor a code object -/
def Pl (o : HO) : Prop := NT o ∧ ∀ c q, o ≠ LamX.CodeO c q
theorem Tabs.upd {T : Tb} {H : Hp} {p : Addr} {o : HO} (t : LamX.Tabs T H) (h : ∀ u, H p = some u → Pl u) : LamX.Tabs T (upd H p o) := fun r hr => by
  obtain ⟨ps, h1, h2, h3⟩ := t r hr
  have n1 : r.1 ≠ p := fun z => (h _ (z ▸ h1)).1 ps rfl
  refine ⟨ps, by rw [upd_ne n1]; exact h1, h2, fun pos cv hc => ?_⟩
  obtain ⟨c, e1, e2⟩ := h3 pos cv hc
  have n2 : c ≠ p := fun z => (h _ (z ▸ e2)).2 _ _ rfl
  exact ⟨c, e1, by rw [upd_ne n2]; exact e2⟩
structure Gr (T : Tb) (H H' : Hp) : Prop where
  h : ∀ a o, H a = some o → NT o → H' a = some o
  tb : ∀ a ps, H a = some (.tbl ps) → ∃ ps', H' a = some (.tbl ps')
  ts : LamX.Tabs T H → LamX.Tabs T H'
section
variable {T : Tb} {H H' H2 : Hp} {p a : Addr} {o : HO}
theorem Gr.g (x : Gr T H H') (e : H a = some o) (nt : NT o := by intro _ z; cases z) : H' a = some o := x.h a o e nt
theorem Gr.refl (T : Tb) (H : Hp) : Gr T H H := ⟨fun _ _ h _ => h, fun _ ps h => ⟨ps, h⟩, id⟩
theorem Gr.trans (x : Gr T H H') (y : Gr T H' H2) : Gr T H H2 := ⟨fun a o h n => y.h a o (x.h a o h n) n, fun a ps h => let ⟨ps', h'⟩ := x.tb a ps h; y.tb a ps' h', fun t => y.ts (x.ts t)⟩
theorem nt_or (o : HO) : NT o ∨ ∃ ps, o = .tbl ps := by
  cases o with
  | tbl ps => exact .inr ⟨ps, rfl⟩
  | _ => exact .inl fun _ z => by cases z
theorem Gr.there (x : Gr T H H') (e : H a = some o) : ∃ o', H' a = some o' := by
  rcases nt_or o with h | ⟨ps, rfl⟩
  · exact ⟨o, x.h a o e h⟩
  · obtain ⟨ps', h⟩ := x.tb a ps e
    exact ⟨_, h⟩
theorem Gr.back (x : Gr T H H') (h : H' p = none) : H p = none := by
  cases q : H p with
  | none => rfl
  | some o =>
    obtain ⟨o', e⟩ := x.there q
    rw [h] at e; cases e
theorem Gr.mut (x : Gr T H H') (h : H p = none) (hp : ∀ u, H' p = some u → Pl u) : Gr T H (upd H' p o) :=
  ⟨fun a u e n => by rw [upd_ne (ne_of_none e h)]; exact x.h a u e n, fun a ps e => by rw [upd_ne (ne_of_none e h)]; exact x.tb a ps e, fun t => Tabs.upd (x.ts t) hp⟩
theorem Gr.new (h : H p = none) : Gr T H (upd H p o) := (Gr.refl T H).mut h fun u e => by rw [h] at e; cases e
theorem pl_lst {xs : List V} : Pl (.lst xs) := ⟨fun _ z => (by cases z), fun _ _ z => (by cases z)⟩
theorem pl_ins {C dx : Addr} {fs : List (Str × V)} : Pl (.ins C dx fs) := ⟨fun _ z => (by cases z), fun _ _ z => (by cases z)⟩
theorem pl_at (h : H p = some o) (q : Pl o) : ∀ u, H p = some u → Pl u := fun u e => by
  rw [h] at e
  cases e
  exact q
theorem pl_none (h : H p = none) : ∀ u, H p = some u → Pl u := fun u e => by rw [h] at e; cases e
end
/-- F is a part of H, no table in it -/
structure FIn (F H : Hp) : Prop where
  e : Ext F H
  nf : ∀ a ps, F a ≠ some (.tbl ps)
theorem FIn.back {F H : Hp} {p : Addr} (x : FIn F H) (h : H p = none) : F p = none := x.e.back h
theorem FIn.gr {T : Tb} {F H H' : Hp} (x : FIn F H) (g : Gr T H H') : FIn F H' := ⟨fun a o e => g.h a o (x.e a o e) fun ps z => x.nf a ps (z ▸ e), x.nf⟩
theorem FIn.new {F H : Hp} {p : Addr} {o : HO} (x : FIn F H) (h : H p = none) (nt : NT o := by intro _ z; cases z) : FIn (upd F p o) (upd H p o) := ⟨fun a u q => by
  by_cases z : a = p
  · subst z; rw [upd_same] at q ⊢; exact q
  · rw [upd_ne z] at q ⊢; exact x.e a u q, fun a ps q => by
  by_cases z : a = p
  · subst z; rw [upd_same] at q; exact nt ps (Option.some.inj q)
  · rw [upd_ne z] at q; exact x.nf a ps q⟩
theorem FIn.mut {F H : Hp} {p : Addr} {o : HO} (x : FIn F H) (h : F p = none) : FIn F (upd H p o) := ⟨x.e.mut h, x.nf⟩
/-- an object of H is frozen -/
theorem FIn.add {F H : Hp} {p : Addr} {o : HO} (x : FIn F H) (h : H p = some o) (nt : NT o := by intro _ z; cases z) : FIn (upd F p o) H := ⟨fun a u q => by
  by_cases z : a = p
  · subst z; rw [upd_same] at q; rw [← q]; exact h
  · rw [upd_ne z] at q; exact x.e a u q, fun a ps q => by
  by_cases z : a = p
  · subst z; rw [upd_same] at q; exact nt ps (Option.some.inj q)
  · rw [upd_ne z] at q; exact x.nf a ps q⟩
structure Nx (T : Tb) (F H F' H' : Hp) : Prop where
  h : Gr T H H'
  f : Ext F F'
  fh : FIn F' H'
  fr : ∀ a o, H a = some o → F a = none → F' a = none
theorem Nx.refl {T : Tb} {F H : Hp} (e : FIn F H) : Nx T F H F H := ⟨Gr.refl _ _, Ext.refl _, e, fun _ _ _ h => h⟩
theorem Nx.trans {T : Tb} {F H F1 H1 F2 H2 : Hp} (a : Nx T F H F1 H1) (b : Nx T F1 H1 F2 H2) : Nx T F H F2 H2 :=
  ⟨a.h.trans b.h, a.f.trans b.f, b.fh, fun x o e n => let ⟨o', e'⟩ := a.h.there e; b.fr x o' e' (a.fr x o e n)⟩
/-- a new frozen object -/
theorem Nx.new {T : Tb} {F H : Hp} {p : Addr} {o : HO} (e : FIn F H) (h : H p = none) (nt : NT o := by intro _ z; cases z) : Nx T F H (upd F p o) (upd H p o) :=
  ⟨Gr.new h, Ext.new (e.back h), e.new h nt, fun a u q n => by rw [upd_ne (ne_of_none q h)]; exact n⟩
/-- a new object that is not frozen -/
theorem Nx.newH {T : Tb} {F H : Hp} {p : Addr} {o : HO} (e : FIn F H) (h : H p = none) : Nx T F H F (upd H p o) :=
  ⟨Gr.new h, Ext.refl _, e.mut (e.back h), fun _ _ _ n => n⟩

/-- an object that changes: a list, or the instance -/
def Own (k : Cl) (F H : Hp) (l : Addr) (d : PyData) : Prop := F l = none ∧ ((∃ xs ds, H l = some (.lst xs) ∧ RpA k F xs ds ∧ d = .list ds) ∨ ∃ dx fs kvs, H l = some (.ins k.O dx fs) ∧ RpF k F fs kvs ∧ d = .dict ((.none, .int 1) :: kvs))
theorem Own.there {k : Cl} {F H : Hp} {l : Addr} {d : PyData} (x : Own k F H l d) : ∃ o, H l = some o := by
  rcases x.2 with ⟨_, _, h, _⟩ | ⟨_, _, _, h, _⟩ <;> exact ⟨_, h⟩
theorem Own.nt {k : Cl} {F H : Hp} {l : Addr} {d : PyData} (x : Own k F H l d) (ps : Array Value) : H l ≠ some (.tbl ps) := fun z => by
  rcases x.2 with ⟨_, _, h, _⟩ | ⟨_, _, _, h, _⟩ <;> (rw [h] at z; cases z)
theorem Own.pl {k : Cl} {F H : Hp} {l : Addr} {d : PyData} (x : Own k F H l d) : ∀ u, H l = some u → Pl u := by
  rcases x.2 with ⟨_, _, h, _⟩ | ⟨_, _, _, h, _⟩
  · exact pl_at h pl_lst
  · exact pl_at h pl_ins
theorem Own.step {k : Cl} {F H F' H' : Hp} {l : Addr} {d : PyData} (x : Own k F H l d) (n : Nx k.T F H F' H') : Own k F' H' l d := by
  obtain ⟨o, e⟩ := x.there
  refine ⟨n.fr l o e x.1, ?_⟩
  rcases x.2 with ⟨xs, ds, h, r, z⟩ | ⟨dx, fs, kvs, h, r, z⟩
  · exact .inl ⟨xs, ds, n.h.g h, r.mono n.f, z⟩
  · exact .inr ⟨dx, fs, kvs, n.h.g h, r.mono n.f, z⟩
/-- the slots: those of ow hold what changes, the others frozen data -/
structure Sl (k : Cl) (me : Option Addr) (H0 F H : Hp) (ow : List Nat) (σ : L2.St) (δ : Dt) : Prop where
  len : σ.length = δ.length
  fz : ∀ i d, i ∉ ow → δ[i]? = some (some d) → ∃ v, σ[i]? = some (some v) ∧ Rp k F v d
  own : ∀ i d, i ∈ ow → δ[i]? = some (some d) → ∃ l, σ[i]? = some (some (.ref l)) ∧ (H0 l = none ∨ (i = 0 ∧ me = some l)) ∧ Own k F H l d
  ne : ∀ i j a b, i ∈ ow → j ∈ ow → i ≠ j → δ[i]? = some (some a) → δ[j]? = some (some b) → σ[i]? ≠ σ[j]?
  tab : LamX.Tabs k.T H
theorem Sl.step {k : Cl} {me : Option Addr} {H0 F H F' H' : Hp} {ow : List Nat} {σ : L2.St} {δ : Dt} (x : Sl k me H0 F H ow σ δ) (n : Nx k.T F H F' H') : Sl k me H0 F' H' ow σ δ :=
  ⟨x.len, fun i d h e => let ⟨v, a, b⟩ := x.fz i d h e; ⟨v, a, b.mono n.f⟩, fun i d h e => let ⟨l, a, b, c⟩ := x.own i d h e; ⟨l, a, b, c.step n⟩, x.ne, n.h.ts x.tab⟩

/-! ### readings by data -/
def tD (k : Cl) (ow : List Nat) (f : Dt → Option PyData) : TE := fun σ H Q => ∃ me H0 F δ d, FIn F H ∧ Sl k me H0 F H ow σ δ ∧ f δ = some d ∧ ∀ v F' H', Nx k.T F H F' H' → Rp k F' v d → Q v H'
/-- a new list -/
def tDN (k : Cl) (ow : List Nat) (f : Dt → Option PyData) : TE := fun σ H Q => ∃ me H0 F δ ds, FIn F H ∧ Sl k me H0 F H ow σ δ ∧ f δ = some (.list ds) ∧ ∀ l xs F' H', Nx k.T F H F' H' → H l = none → F' l = none → H' l = some (.lst xs) → RpA k F' xs ds → Q (.ref l) H'
def tDT (k : Cl) (ow : List Nat) (f : Dt → Option Bool) : TT := fun σ H Q => ∃ me H0 F δ b, FIn F H ∧ Sl k me H0 F H ow σ δ ∧ f δ = some b ∧ ∀ F' H', Nx k.T F H F' H' → Q b H'
def tDA (k : Cl) (ow : List Nat) (f : Dt → Option (List PyData)) : TA := fun σ H Q => ∃ me H0 F δ ds, FIn F H ∧ Sl k me H0 F H ow σ δ ∧ f δ = some ds ∧ ∀ vs F' H', Nx k.T F H F' H' → RpA k F' vs ds → Q vs H'
theorem pe_imp {X : Cx} {e : Expr} {t t' : TE} (h : PE X e t) (i : ∀ σ H Q, t' σ H Q → t σ H Q) : PE X e t' := ⟨fun pins s σ H Q I q => h.run pins s σ H Q I (i σ H Q q)⟩
theorem pt_imp {X : Cx} {e : Expr} {t t' : TT} (h : PT X e t) (i : ∀ σ H Q, t' σ H Q → t σ H Q) : PT X e t' := ⟨fun pins s σ H Q I q => h.run pins s σ H Q I (i σ H Q q)⟩
theorem pw_imp {X : Cx} {e : Expr} {t t' : TT} (h : PW X e t) (i : ∀ σ H Q, t' σ H Q → t σ H Q) : PW X e t' := ⟨fun w pins s σ H Q I q => h.run w pins s σ H Q I (i σ H Q q)⟩
theorem pa_imp {X : Cx} {es : List Expr} {t t' : TA} (h : PA X es t) (i : ∀ σ H Q, t' σ H Q → t σ H Q) : PA X es t' := ⟨fun pos pins s σ H Q I q => h.run pos pins s σ H Q I (i σ H Q q)⟩
theorem ps_imp {X : Cx} {st : Stmt} {t t' : TS} (h : PS X st t) (i : ∀ D σ H, t' D σ H → t D σ H) : PS X st t' := ⟨fun pins s σ H D I q => h.run pins s σ H D I (i D σ H q)⟩
theorem pss_imp {X : Cx} {st : List Stmt} {t t' : TS} (h : PSs X st t) (i : ∀ D σ H, t' D σ H → t D σ H) : PSs X st t' := ⟨fun pins s σ H D I q => h.run pins s σ H D I (i D σ H q)⟩

section
variable {X : Cx} {k : Cl} {ow : List Nat} {a b c e : Expr} {es : List Expr} {fa fb fc : Dt → Option PyData} {pos : Pos}
/-- a new list, frozen -/
def asL (f : Dt → Option PyData) : Dt → Option PyData := fun δ => match f δ with
  | some (.list ds) => some (.list ds)
  | _ => none
theorem asL_some {f : Dt → Option PyData} {δ : Dt} {d : PyData} (h : asL f δ = some d) : ∃ ds, d = .list ds ∧ f δ = some (.list ds) := by
  unfold asL at h
  split at h
  · rename_i ds e
    exact ⟨ds, (Option.some.inj h).symm, e⟩
  · cases h
theorem d_ofN (h : PE X e (tDN k ow fa)) : PE X e (tD k ow (asL fa)) := pe_imp h fun σ H Q ⟨me, H0, F, δ, d, e, x, hf, q⟩ => by
  obtain ⟨ds, rfl, hd⟩ := asL_some hf
  refine ⟨me, H0, F, δ, ds, e, x, hd, fun l xs F' H' n hl hF hH r => q _ (upd F' l (.lst xs)) H' ⟨n.h, n.f.trans (Ext.new hF), n.fh.add hH, fun a o z w => ?_⟩ (.lst upd_same (r.mono (Ext.new hF)))⟩
  · rw [upd_ne (ne_of_none z hl)]; exact n.fr a o z w
def vr (i : Nat) : Dt → Option PyData := fun δ => (δ[i]?).join
def cD (d : PyData) : Dt → Option PyData := fun _ => some d
def b2 (g : PyData → PyData → Option PyData) (f h : Dt → Option PyData) : Dt → Option PyData := fun δ => (f δ).bind fun x => (h δ).bind fun y => g x y
def b1 (g : PyData → Option PyData) (f : Dt → Option PyData) : Dt → Option PyData := fun δ => (f δ).bind g
theorem vr_some {δ : Dt} {i : Nat} {d : PyData} (h : vr i δ = some d) : δ[i]? = some (some d) := by
  unfold vr at h
  cases e : δ[i]? with
  | none => rw [e] at h; cases h
  | some o => rw [e] at h; exact congrArg some h
theorem d_var {i : Nat} (h : PE X e (tVar i)) (hi : i ∉ ow := by decide) : PE X e (tD k ow (vr i)) := pe_imp h fun σ H Q ⟨me, H0, F, δ, d, ex, x, hf, q⟩ => by
  obtain ⟨v, e1, r⟩ := x.fz i d hi (vr_some hf)
  exact ⟨v, e1, q v F H (.refl ex) r⟩
theorem d_const {v : V} {d : PyData} (h : PE X e (tC v)) (r : ∀ F, Rp k F v d) : PE X e (tD k ow (cD d)) := pe_imp h fun σ H Q ⟨me, H0, F, δ, d', ex, x, hf, q⟩ => by
  obtain rfl : d = d' := Option.some.inj hf
  exact q v F H (.refl ex) (r F)
/-- a rule of two values, by data -/
def Op2 (k : Cl) (r : R2) (g : PyData → PyData → Option PyData) : Prop := ∀ F H x y dx dy d Q, FIn F H → Rp k F x dx → Rp k F y dy → g dx dy = some d → (∀ v F' H', Nx k.T F H F' H' → Rp k F' v d → Q v H') → r x y H Q
def Op1 (k : Cl) (r : V → Hp → VK → Prop) (g : PyData → Option PyData) : Prop := ∀ F H x dx d Q, FIn F H → Rp k F x dx → g dx = some d → (∀ v F' H', Nx k.T F H F' H' → Rp k F' v d → Q v H') → r x H Q
def OpA (k : Cl) (r : List V → Hp → VK → Prop) (g : List PyData → Option PyData) : Prop := ∀ F H xs ds d Q, FIn F H → RpA k F xs ds → g ds = some d → (∀ v F' H', Nx k.T F H F' H' → Rp k F' v d → Q v H') → r xs H Q
theorem b2_some {g : PyData → PyData → Option PyData} {f h : Dt → Option PyData} {δ : Dt} {d : PyData} (e : b2 g f h δ = some d) : ∃ x y, f δ = some x ∧ h δ = some y ∧ g x y = some d := by
  unfold b2 at e
  obtain ⟨x, e1, e2⟩ := Option.bind_eq_some_iff.mp e
  obtain ⟨y, e3, e4⟩ := Option.bind_eq_some_iff.mp e2
  exact ⟨x, y, e1, e3, e4⟩
theorem op2_tD {r : R2} {g : PyData → PyData → Option PyData} (o : Op2 k r g) : ∀ σ H Q, tD k ow (b2 g fa fb) σ H Q → tOp r (tD k ow fa) (tD k ow fb) σ H Q := fun σ H Q ⟨me, H0, F, δ, d, ex, x, hf, q⟩ => by
  obtain ⟨dx, dy, h1, h2, h3⟩ := b2_some hf
  exact ⟨me, H0, F, δ, dx, ex, x, h1, fun v F1 H1 n1 r1 => ⟨me, H0, F1, δ, dy, n1.fh, x.step n1, h2, fun u F2 H2 n2 r2 => o F2 H2 v u dx dy d Q n2.fh (r1.mono n2.f) r2 h3 fun w F3 H3 n3 r3 => q w F3 H3 ((n1.trans n2).trans n3) r3⟩⟩
theorem d_op {op : Operator} {r : R2} {g : PyData → PyData → Option PyData} (ho : OpR X (binaryOp op) r) (o : Op2 k r g) (ha : PE X a (tD k ow fa)) (hb : PE X b (tD k ow fb)) : PE X (.BinOp a op b pos) (tD k ow (b2 g fa fb)) :=
  pe_imp (pe_op ho ha hb) (op2_tD o)
theorem d_cmp {op : CmpOp} {r : R2} {g : PyData → PyData → Option PyData} (ho : OpR X (compareOp op) r) (o : Op2 k r g) (ha : PE X a (tD k ow fa)) (hb : PE X b (tD k ow fb)) (hm : behindInMarks op b = false) : PE X (.Compare a [op] [b] pos) (tD k ow (b2 g fa fb)) :=
  pe_imp (pe_cmpR ho ha hb hm) (op2_tD o)
def tB (f : Dt → Option PyData) : Dt → Option Bool := fun δ => (f δ).bind fun d => match d with | .bool c => some c | _ => none
theorem tB_some {f : Dt → Option PyData} {δ : Dt} {c : Bool} (h : tB f δ = some c) : f δ = some (.bool c) := by
  unfold tB at h
  obtain ⟨d, e1, e2⟩ := Option.bind_eq_some_iff.mp h
  cases d with
  | bool z => rw [e1]; exact congrArg (fun z => some (PyData.bool z)) (Option.some.inj e2)
  | _ => cases e2
theorem dt_cmp {op : CmpOp} {r : R2} {g : PyData → PyData → Option PyData} (ho : OpR X (compareOp op) r) (o : Op2 k r g) (ha : PE X a (tD k ow fa)) (hb : PE X b (tD k ow fb)) (hm : behindInMarks op b = false) : PT X (.Compare a [op] [b] pos) (tDT k ow (tB (b2 g fa fb))) :=
  pt_imp (pt_cmpR ho ha hb hm) fun σ H Q ⟨me, H0, F, δ, c, ex, x, hf, q⟩ => op2_tD (fa := fa) (fb := fb) o σ H _ ⟨me, H0, F, δ, .bool c, ex, x, tB_some hf, fun v F' H' n r => by
    cases r
    exact ⟨c, rfl, q F' H' n⟩⟩
theorem d_un {op : UnaryOp} {r : V → Hp → VK → Prop} {g : PyData → Option PyData} (ho : UnR X (unaryOp op) r) (o : Op1 k r g) (ha : PE X a (tD k ow fa)) : PE X (.UnaryOp op a pos) (tD k ow (b1 g fa)) :=
  pe_imp (pe_un ho ha) fun σ H Q ⟨me, H0, F, δ, d, ex, x, hf, q⟩ => by
    obtain ⟨dx, h1, h2⟩ := Option.bind_eq_some_iff.mp hf
    exact ⟨me, H0, F, δ, dx, ex, x, h1, fun v F1 H1 n1 r1 => o F1 H1 v dx d Q n1.fh r1 h2 fun w F3 H3 n3 r3 => q w F3 H3 (n1.trans n3) r3⟩
theorem d_ix {r : R2} {g : PyData → PyData → Option PyData} (ho : IxR X r) (o : Op2 k r g) (ha : PE X a (tD k ow fa)) (hb : PE X b (tD k ow fb)) (hs : PlainIx b) : PE X (.Subscript a b pos) (tD k ow (b2 g fa fb)) :=
  pe_imp (pe_ix ho ha hb hs) (op2_tD o)
def aNil : Dt → Option (List PyData) := fun _ => some []
def aCons (f : Dt → Option PyData) (r : Dt → Option (List PyData)) : Dt → Option (List PyData) := fun δ => (f δ).bind fun d => (r δ).map (d :: ·)
theorem da_nil : PA X [] (tDA k ow aNil) := pa_imp pa_nil fun σ H Q ⟨me, H0, F, δ, ds, ex, x, hf, q⟩ => by
  obtain rfl : [] = ds := Option.some.inj hf
  exact q [] F H (.refl ex) .nil
theorem da_cons {fr : Dt → Option (List PyData)} (ha : PE X e (tD k ow fa)) (hr : PA X es (tDA k ow fr)) (hs : starEach (e :: es) X.env = (false, eval e X.env) :: starEach es X.env := by rfl) : PA X (e :: es) (tDA k ow (aCons fa fr)) :=
  pa_imp (pa_cons ha hr hs) fun σ H Q ⟨me, H0, F, δ, ds, ex, x, hf, q⟩ => by
    obtain ⟨d, h1, h2⟩ := Option.bind_eq_some_iff.mp hf
    obtain ⟨r, h3, h4⟩ := Option.map_eq_some_iff.mp h2
    subst h4
    exact ⟨me, H0, F, δ, d, ex, x, h1, fun v F1 H1 n1 r1 => ⟨me, H0, F1, δ, r, n1.fh, x.step n1, h3, fun vs F2 H2 n2 r2 => q _ F2 H2 (n1.trans n2) (.cons (r1.mono n2.f) r2)⟩⟩
def bA (g : List PyData → Option PyData) (f : Dt → Option (List PyData)) : Dt → Option PyData := fun δ => (f δ).bind g
theorem opA_tD {r : List V → Hp → VK → Prop} {g : List PyData → Option PyData} {f : Dt → Option (List PyData)} (o : OpA k r g) : ∀ σ H Q, tD k ow (bA g f) σ H Q → tDA k ow f σ H (fun vs H1 => r vs H1 Q) := fun σ H Q ⟨me, H0, F, δ, d, ex, x, hf, q⟩ => by
  obtain ⟨ds, h1, h2⟩ := Option.bind_eq_some_iff.mp hf
  exact ⟨me, H0, F, δ, ds, ex, x, h1, fun vs F1 H1 n1 r1 => o F1 H1 vs ds d Q n1.fh r1 h2 fun w F3 H3 n3 r3 => q w F3 H3 (n1.trans n3) r3⟩
def szOk (l : List PyData) : Option (List PyData) := if l.length ≤ sizeLine then some l else none
theorem d_tup {f : Dt → Option (List PyData)} {x1} (h : PA X es (tDA k ow f)) : PE X (.Tuple es x1 pos) (tD k ow (bA (fun l => (szOk l).map .tuple) f)) :=
  pe_imp (pe_tup h) (opA_tD (r := fun xs H Q => xs.length ≤ sizeLine ∧ ∀ p, H p = none → Q (.ref p) (upd H p (.tup xs))) fun F H xs ds d Q ex r hg q => by
    obtain ⟨l, h1, h2⟩ := Option.map_eq_some_iff.mp hg
    subst h2
    unfold szOk at h1
    split at h1
    · cases h1
      exact ⟨by rw [r.length]; assumption, fun p hp => q _ _ _ (.new ex hp) (.tup upd_same (r.mono (Ext.new (ex.back hp))))⟩
    · cases h1)
theorem dn_lst {f : Dt → Option (List PyData)} (h : PA X es (tDA k ow f)) : PE X (.List es pos) (tDN k ow (bA (fun l => (szOk l).map .list) f)) :=
  pe_imp (pe_lst h) fun σ H Q ⟨me, H0, F, δ, ds, ex, x, hf, q⟩ => by
    obtain ⟨l, h1, h2⟩ := Option.bind_eq_some_iff.mp hf
    obtain ⟨l2, h3, h4⟩ := Option.map_eq_some_iff.mp h2
    unfold szOk at h3
    split at h3
    · cases h3
      cases h4
      refine ⟨me, H0, F, δ, ds, ex, x, h1, fun vs F1 H1 n1 r1 => ⟨by rw [r1.length]; assumption, fun p hp => q p vs F1 _ (n1.trans (.newH n1.fh hp)) (n1.h.back hp) ?_ upd_same r1⟩⟩
      exact n1.fh.back hp
    · cases h3
/-- a built-in's call -/
theorem d_callB {x : Str} {p : Pos} {id : String} {r : List V → Hp → VK → Prop} {g : List PyData → Option PyData} {f : Dt → Option (List PyData)} (hc : CallR X (.builtin id) r) (o : OpA k r g) (hg : Gl X x) (hm : X.mg x = none) (hv : bootBuiltins x = some (.builtin id)) (ha : PA X (e :: es) (tDA k ow f))
    (hn : x ≠ "__name__" := by decide) (hdb : (x == ("__debug__" : Str)) = false := by decide) (he : starEach (e :: es) X.env = (false, eval e X.env) :: starEach es X.env := by rfl) (hpl : (backTo pos (starEach es X.env)).any (·.1) = false := by rfl) :
    PE X (.Call (.Name x p) (e :: es) [] pos) (tD k ow (bA g f)) := pe_imp (pe_callB hc hg hm hv ha hn hdb he hpl) (opA_tD o)
theorem d_callTy {x : Str} {p : Pos} {T : String} {r : List V → Hp → VK → Prop} {g : List PyData → Option PyData} {f : Dt → Option (List PyData)} (hc : CallR X (.type T) r) (o : OpA k r g) (hg : Gl X x) (hm : X.mg x = none) (hv : bootBuiltins x = some (.type T)) (ha : PA X (e :: es) (tDA k ow f))
    (hn : x ≠ "__name__" := by decide) (hdb : (x == ("__debug__" : Str)) = false := by decide) (he : starEach (e :: es) X.env = (false, eval e X.env) :: starEach es X.env := by rfl) (hpl : (backTo pos (starEach es X.env)).any (·.1) = false := by rfl) :
    PE X (.Call (.Name x p) (e :: es) [] pos) (tD k ow (bA g f)) := pe_imp (pe_callTy hc hg hm hv ha hn hdb he hpl) (opA_tD o)

/-! ### tests -/
def tAndD (f g : Dt → Option Bool) : Dt → Option Bool := fun δ => (f δ).bind fun c => if c then g δ else some false
def tOrD (f g : Dt → Option Bool) : Dt → Option Bool := fun δ => (f δ).bind fun c => if c then some true else g δ
def tNotD (f : Dt → Option Bool) : Dt → Option Bool := fun δ => (f δ).map (!·)
variable {ta tb : Dt → Option Bool} {rest : List Expr}
theorem dt_val (h : PE X e (tD k ow fa)) (he : ∀ whole, isTrue e X.env whole = (do let v ← whole; standAt e.pos; holding [v] (truthy v)) := by intro _; rfl) : PT X e (tDT k ow (tB fa)) :=
  pt_imp (pt_val h he) fun σ H Q ⟨me, H0, F, δ, c, ex, x, hf, q⟩ => ⟨me, H0, F, δ, .bool c, ex, x, tB_some hf, fun v F' H' n r => by
    cases r
    exact ⟨c, rfl, q F' H' n⟩⟩
theorem dw_and1 (ha : PT X a (tDT k ow ta)) : PW X (.BoolOp .And [a] pos) (tDT k ow ta) := pw_and1 ha
theorem dw_or1 (ha : PT X a (tDT k ow ta)) : PW X (.BoolOp .Or [a] pos) (tDT k ow ta) := pw_or1 ha
theorem dw_and (ha : PT X a (tDT k ow ta)) (hb : PW X (.BoolOp .And (b :: rest) pos) (tDT k ow tb)) : PW X (.BoolOp .And (a :: b :: rest) pos) (tDT k ow (tAndD ta tb)) :=
  pw_imp (pw_and ha hb) fun σ H Q ⟨me, H0, F, δ, c, ex, x, hf, q⟩ => by
    obtain ⟨c1, h1, h2⟩ := Option.bind_eq_some_iff.mp hf
    refine ⟨me, H0, F, δ, c1, ex, x, h1, fun F1 H1 n1 => ?_⟩
    cases c1 with
    | true => exact ite2 (fun _ => ⟨me, H0, F1, δ, c, n1.fh, x.step n1, h2, fun F2 H2 n2 => q F2 H2 (n1.trans n2)⟩) (fun z => absurd rfl z)
    | false =>
      obtain rfl : false = c := Option.some.inj h2
      exact ite2 (fun z => nomatch z) (fun _ => q F1 H1 n1)
theorem dw_or (ha : PT X a (tDT k ow ta)) (hb : PW X (.BoolOp .Or (b :: rest) pos) (tDT k ow tb)) : PW X (.BoolOp .Or (a :: b :: rest) pos) (tDT k ow (tOrD ta tb)) :=
  pw_imp (pw_or ha hb) fun σ H Q ⟨me, H0, F, δ, c, ex, x, hf, q⟩ => by
    obtain ⟨c1, h1, h2⟩ := Option.bind_eq_some_iff.mp hf
    refine ⟨me, H0, F, δ, c1, ex, x, h1, fun F1 H1 n1 => ?_⟩
    cases c1 with
    | false => exact ite2 (fun z => nomatch z) (fun _ => ⟨me, H0, F1, δ, c, n1.fh, x.step n1, h2, fun F2 H2 n2 => q F2 H2 (n1.trans n2)⟩)
    | true =>
      obtain rfl : true = c := Option.some.inj h2
      exact ite2 (fun _ => q F1 H1 n1) (fun z => absurd rfl z)
theorem dt_not (ha : PT X a (tDT k ow ta)) : PT X (.UnaryOp .Not a pos) (tDT k ow (tNotD ta)) :=
  pt_imp (pt_not ha) fun σ H Q ⟨me, H0, F, δ, c, ex, x, hf, q⟩ => by
    obtain ⟨c1, h1, h2⟩ := Option.map_eq_some_iff.mp hf
    subst h2
    exact ⟨me, H0, F, δ, c1, ex, x, h1, q⟩
/-- and, or, not of truth values, as values -/
def vAnd (f g : Dt → Option PyData) : Dt → Option PyData := fun δ => (f δ).bind fun d => match d with | .bool true => g δ | .bool false => some (.bool false) | _ => none
def vOr (f g : Dt → Option PyData) : Dt → Option PyData := fun δ => (f δ).bind fun d => match d with | .bool true => some (.bool true) | .bool false => g δ | _ => none
def vNot (f : Dt → Option PyData) : Dt → Option PyData := fun δ => (f δ).bind fun d => match d with | .bool c => some (.bool !c) | _ => none
theorem d_one {op} (h : PE X a (tD k ow fa)) : PE X (.BoolOp op [a] pos) (tD k ow fa) := pe_one h
theorem d_and (ha : PE X a (tD k ow fa)) (hb : PE X (.BoolOp .And (b :: rest) pos) (tD k ow fb)) : PE X (.BoolOp .And (a :: b :: rest) pos) (tD k ow (vAnd fa fb)) :=
  pe_imp (pe_and ha hb) fun σ H Q ⟨me, H0, F, δ, d, ex, x, hf, q⟩ => by
    obtain ⟨d1, h1, h2⟩ := Option.bind_eq_some_iff.mp hf
    refine ⟨me, H0, F, δ, d1, ex, x, h1, fun v F1 H1 n1 r1 => ?_⟩
    cases r1 with
    | bl c =>
      cases c with
      | true => exact ⟨true, rfl, ite2 (fun _ => ⟨me, H0, F1, δ, d, n1.fh, x.step n1, h2, fun v F2 H2 n2 => q v F2 H2 (n1.trans n2)⟩) (fun z => absurd rfl z)⟩
      | false =>
        obtain rfl : PyData.bool false = d := Option.some.inj h2
        exact ⟨false, rfl, ite2 (fun z => nomatch z) (fun _ => q _ F1 H1 n1 (.bl false))⟩
    | _ => cases h2
theorem d_or (ha : PE X a (tD k ow fa)) (hb : PE X (.BoolOp .Or (b :: rest) pos) (tD k ow fb)) : PE X (.BoolOp .Or (a :: b :: rest) pos) (tD k ow (vOr fa fb)) :=
  pe_imp (pe_or ha hb) fun σ H Q ⟨me, H0, F, δ, d, ex, x, hf, q⟩ => by
    obtain ⟨d1, h1, h2⟩ := Option.bind_eq_some_iff.mp hf
    refine ⟨me, H0, F, δ, d1, ex, x, h1, fun v F1 H1 n1 r1 => ?_⟩
    cases r1 with
    | bl c =>
      cases c with
      | false => exact ⟨false, rfl, ite2 (fun z => nomatch z) (fun _ => ⟨me, H0, F1, δ, d, n1.fh, x.step n1, h2, fun v F2 H2 n2 => q v F2 H2 (n1.trans n2)⟩)⟩
      | true =>
        obtain rfl : PyData.bool true = d := Option.some.inj h2
        exact ⟨true, rfl, ite2 (fun _ => q _ F1 H1 n1 (.bl true)) (fun z => absurd rfl z)⟩
    | _ => cases h2
theorem d_not (ha : PE X a (tD k ow fa)) : PE X (.UnaryOp .Not a pos) (tD k ow (vNot fa)) :=
  pe_imp (pe_not ha) fun σ H Q ⟨me, H0, F, δ, d, ex, x, hf, q⟩ => by
    obtain ⟨d1, h1, h2⟩ := Option.bind_eq_some_iff.mp hf
    refine ⟨me, H0, F, δ, d1, ex, x, h1, fun v F1 H1 n1 r1 => ?_⟩
    cases r1 with
    | bl c =>
      obtain rfl : PyData.bool (!c) = d := Option.some.inj h2
      exact ⟨c, rfl, q _ F1 H1 n1 (.bl _)⟩
    | _ => cases h2
end
end Dl
set_option Elab.async false
set_option linter.all false
set_option maxRecDepth 100000
set_option maxHeartbeats 4000000
/-! Operations by data. -/
namespace Dl
open PySem PySem.Spec PyProof.Rows L2

/-! ### ints -/
def gI (g : Int → Int → PyData) : PyData → PyData → Option PyData := fun x y => match x, y with
  | .int i, .int j => some (g i j)
  | _, _ => none
def gIC (C : Int → Int → Bool) (g : Int → Int → PyData) : PyData → PyData → Option PyData := fun x y => match x, y with
  | .int i, .int j => if C i j then some (g i j) else none
  | _, _ => none
theorem gI_some {g : Int → Int → PyData} {x y d : PyData} (h : gI g x y = some d) : ∃ i j, x = .int i ∧ y = .int j ∧ d = g i j := by
  unfold gI at h
  split at h
  · exact ⟨_, _, rfl, rfl, (Option.some.inj h).symm⟩
  · cases h
theorem gIC_some {C : Int → Int → Bool} {g : Int → Int → PyData} {x y d : PyData} (h : gIC C g x y = some d) : ∃ i j, x = .int i ∧ y = .int j ∧ C i j = true ∧ d = g i j := by
  unfold gIC at h
  split at h
  · split at h
    · exact ⟨_, _, rfl, rfl, by assumption, (Option.some.inj h).symm⟩
    · cases h
  · cases h
section
variable {k : Cl}
theorem o2_I0 {gv : Int → Int → V} {g : Int → Int → PyData} (h : ∀ F i j, Rp k F (gv i j) (g i j)) : Op2 k (rI0 gv) (gI g) := fun F H x y dx dy d Q ex rx ry hg q => by
  obtain ⟨i, j, rfl, rfl, rfl⟩ := gI_some hg
  cases rx
  cases ry
  exact ⟨i, j, rfl, rfl, q _ F H (.refl ex) (h F i j)⟩
theorem o2_I {C : Int → Int → Prop} {Cb : Int → Int → Bool} {gv : Int → Int → V} {g : Int → Int → PyData} (hC : ∀ i j, Cb i j = true → C i j) (h : ∀ F i j, Rp k F (gv i j) (g i j)) : Op2 k (rI C gv) (gIC Cb g) := fun F H x y dx dy d Q ex rx ry hg q => by
  obtain ⟨i, j, rfl, rfl, hc, rfl⟩ := gIC_some hg
  cases rx
  cases ry
  exact ⟨i, j, rfl, rfl, hC i j hc, q _ F H (.refl ex) (h F i j)⟩
def addI := gI fun i j => .int (i + j)
def subI := gI fun i j => .int (i - j)
def mulI := gIC (fun i j => decide ((-(2 ^ 64) < i ∧ i < 2 ^ 64) ∨ (-(2 ^ 64) < j ∧ j < 2 ^ 64))) fun i j => .int (i * j)
def mulW := gIC (fun i j => decide (i.natAbs.log2 + j.natAbs.log2 < 1000000)) fun i j => .int (i * j)
def fdivI := gIC (fun i j => decide (j ≠ 0 ∧ j.natAbs < 1073741824)) fun i j => .int (i.fdiv j)
def fdivP := gIC (fun i j => decide (0 < j ∧ j < 1073741824)) fun i j => .int (i / j)
def modI := gIC (fun i j => decide (0 < j)) fun i j => .int (i % j)
def powI := gIC (fun i j => decide (0 ≤ j ∧ j ≤ 1000000 ∧ i.natAbs < 2 ^ 64)) fun i j => .int (i ^ j.toNat)
def ltI := gI fun i j => .bool (decide (i < j))
def leI := gI fun i j => .bool (decide (i ≤ j))
def gtI := gI fun i j => .bool (decide (j < i))
def geI := gI fun i j => .bool (decide (j ≤ i))
theorem o_add : Op2 k (rI0 fun i j => .int (i + j)) addI := o2_I0 fun _ _ _ => .int _
theorem o_sub : Op2 k (rI0 fun i j => .int (i - j)) subI := o2_I0 fun _ _ _ => .int _
theorem o_mul : Op2 k (rI CMul fun i j => .int (i * j)) mulI := o2_I (fun _ _ h => by first | exact of_decide_eq_true h | (have z := of_decide_eq_true h; exact z)) fun _ _ _ => .int _
theorem o_mulW : Op2 k (rI CMulW fun i j => .int (i * j)) mulW := o2_I (fun _ _ h => by first | exact of_decide_eq_true h | (have z := of_decide_eq_true h; exact z)) fun _ _ _ => .int _
theorem o_fdiv : Op2 k (rI CDivN fun i j => .int (i.fdiv j)) fdivI := o2_I (fun _ _ h => by first | exact of_decide_eq_true h | (have z := of_decide_eq_true h; exact z)) fun _ _ _ => .int _
theorem o_fdivP : Op2 k (rI CDiv fun i j => .int (i / j)) fdivP := o2_I (fun _ _ h => by first | exact of_decide_eq_true h | (have z := of_decide_eq_true h; exact z)) fun _ _ _ => .int _
theorem o_mod : Op2 k (rI (fun _ j => 0 < j) fun i j => .int (i % j)) modI := o2_I (fun _ _ h => by first | exact of_decide_eq_true h | (have z := of_decide_eq_true h; exact z)) fun _ _ _ => .int _
theorem o_pow : Op2 k (rI CPow fun i j => .int (i ^ j.toNat)) powI := o2_I (fun _ _ h => by first | exact of_decide_eq_true h | (have z := of_decide_eq_true h; exact z)) fun _ _ _ => .int _
theorem o_lt : Op2 k (rI0 fun i j => .bl (decide (i < j))) ltI := o2_I0 fun _ _ _ => .bl _
theorem o_le : Op2 k (rI0 fun i j => .bl (decide (i ≤ j))) leI := o2_I0 fun _ _ _ => .bl _
theorem o_gt : Op2 k (rI0 fun i j => .bl (decide (j < i))) gtI := o2_I0 fun _ _ _ => .bl _
theorem o_ge : Op2 k (rI0 fun i j => .bl (decide (j ≤ i))) geI := o2_I0 fun _ _ _ => .bl _
def negI : PyData → Option PyData
  | .int i => some (.int (-i))
  | _ => none
theorem o_neg : Op1 k (rU fun i => .int (-i)) negI := fun F H x dx d Q ex rx hg q => by
  cases rx with
  | int i =>
    obtain rfl : PyData.int (-i) = d := Option.some.inj hg
    exact ⟨i, rfl, q _ F H (.refl ex) (.int _)⟩
  | _ => cases hg
/-! ### None, ==, in -/
def isNone : PyData → Bool
  | .none => true
  | _ => false
def isN (x y : PyData) : Option PyData := match y with
  | .none => some (.bool (isNone x))
  | _ => none
def isNotN (x y : PyData) : Option PyData := match y with
  | .none => some (.bool (!isNone x))
  | _ => none
theorem non_dec {F : Hp} {v : V} {d : PyData} (r : Rp k F v d) : decide (v = .non) = isNone d := by
  cases r <;> simp [isNone]
theorem o_isN : Op2 k (fun x y H Q => y = .non ∧ Q (.bl (decide (x = .non))) H) isN := fun F H x y dx dy d Q ex rx ry hg q => by
  cases ry with
  | non =>
    obtain rfl : PyData.bool (isNone dx) = d := Option.some.inj hg
    exact ⟨rfl, q _ F H (.refl ex) (by rw [non_dec rx]; exact .bl _)⟩
  | _ => cases hg
theorem o_isNotN : Op2 k (fun x y H Q => y = .non ∧ Q (.bl (!decide (x = .non))) H) isNotN := fun F H x y dx dy d Q ex rx ry hg q => by
  cases ry with
  | non =>
    obtain rfl : PyData.bool (!isNone dx) = d := Option.some.inj hg
    exact ⟨rfl, q _ F H (.refl ex) (by rw [non_dec rx]; exact .bl _)⟩
  | _ => cases hg
mutual
theorem plain_of_lay : ∀ d : PyData, d.canLay0 = true → plain d = true
  | .none, _ => by simp [plain]
  | .bool _, _ => by simp [plain]
  | .int _, _ => by simp [plain]
  | .str _, _ => by simp [plain]
  | .list l, h => by rw [plain]; exact plainAll_of_lay l (by simpa [PyData.canLay0] using h)
  | .tuple l, h => by rw [plain]; exact plainAll_of_lay l (by simpa [PyData.canLay0] using h)
  | .dict _, h => by simp [PyData.canLay0] at h
theorem plainAll_of_lay : ∀ l : List PyData, PyData.canLayAll0 l = true → plainAll l = true
  | [], _ => rfl
  | d :: r, h => by
    rw [PyData.canLayAll0, Bool.and_eq_true] at h
    rw [plainAll, Bool.and_eq_true]
    exact ⟨plain_of_lay d h.1, plainAll_of_lay r h.2⟩
end
theorem plain_of_shaped {d : PyData} (h : SeqAt.shaped d = true) : plain d = true := plain_of_lay d (SeqAt.canLay_of_shaped h)
def eqD (x y : PyData) : Option PyData := if SeqAt.shaped x && SeqAt.shaped y then some (.bool (PyData.eqv x y)) else none
def neD (x y : PyData) : Option PyData := if SeqAt.shaped x && SeqAt.shaped y then some (.bool (!PyData.eqv x y)) else none
def inD (x y : PyData) : Option PyData := match y with
  | .list l => if SeqAt.shaped x && SeqAt.shaped (.list l) then some (.bool (l.any fun z => PyData.eqv z x)) else none
  | _ => none
def notInD (x y : PyData) : Option PyData := match y with
  | .list l => if SeqAt.shaped x && SeqAt.shaped (.list l) then some (.bool (!l.any fun z => PyData.eqv z x)) else none
  | _ => none
theorem o_eqD {K : PySem.W.Frag} : Op2 k (rEqD K) eqD := fun F H x y dx dy d Q ex rx ry hg q => by
  unfold eqD at hg
  split at hg
  · rename_i h
    obtain ⟨h1, h2⟩ := Bool.and_eq_true_iff.mp h
    cases hg
    exact ⟨dx, dy, (rx.mono ex.e).dp (plain_of_shaped h1), (ry.mono ex.e).dp (plain_of_shaped h2), h1, h2, q _ F H (.refl ex) (.bl _)⟩
  · cases hg
theorem o_neD {K : PySem.W.Frag} : Op2 k (rNeD K) neD := fun F H x y dx dy d Q ex rx ry hg q => by
  unfold neD at hg
  split at hg
  · rename_i h
    obtain ⟨h1, h2⟩ := Bool.and_eq_true_iff.mp h
    cases hg
    exact ⟨dx, dy, (rx.mono ex.e).dp (plain_of_shaped h1), (ry.mono ex.e).dp (plain_of_shaped h2), h1, h2, q _ F H (.refl ex) (.bl _)⟩
  · cases hg
theorem o_inD {K : PySem.W.Frag} : Op2 k (rInD K) inD := fun F H x y dx dy d Q ex rx ry hg q => by
  cases dy with
  | list l =>
    have hg : (if SeqAt.shaped dx && SeqAt.shaped (.list l) then some (PyData.bool (l.any fun z => PyData.eqv z dx)) else none) = some d := hg
    split at hg
    · rename_i h
      obtain ⟨h1, h2⟩ := Bool.and_eq_true_iff.mp h
      cases hg
      exact ⟨dx, l, (rx.mono ex.e).dp (plain_of_shaped h1), (ry.mono ex.e).dp (plain_of_shaped h2), h1, h2, q _ F H (.refl ex) (.bl _)⟩
    · cases hg
  | _ => cases hg
theorem o_notInD {K : PySem.W.Frag} : Op2 k (rNotInD K) notInD := fun F H x y dx dy d Q ex rx ry hg q => by
  cases dy with
  | list l =>
    have hg : (if SeqAt.shaped dx && SeqAt.shaped (.list l) then some (PyData.bool (!l.any fun z => PyData.eqv z dx)) else none) = some d := hg
    split at hg
    · rename_i h
      obtain ⟨h1, h2⟩ := Bool.and_eq_true_iff.mp h
      cases hg
      exact ⟨dx, l, (rx.mono ex.e).dp (plain_of_shaped h1), (ry.mono ex.e).dp (plain_of_shaped h2), h1, h2, q _ F H (.refl ex) (.bl _)⟩
    · cases hg
  | _ => cases hg
/-! ### scalars by == (bools) -/
def neB (x y : PyData) : Option PyData := match x, y with
  | .bool a, .bool b => some (.bool (a != b))
  | _, _ => none
theorem o_neB : Op2 k rNe neB := fun F H x y dx dy d Q ex rx ry hg q => by
  cases rx with
  | bl a => cases ry with
    | bl b =>
      obtain rfl : PyData.bool (a != b) = d := Option.some.inj hg
      refine ⟨rfl, q _ F H (.refl ex) ?_⟩
      have e : (!decide (V.bl a = V.bl b)) = (a != b) := by cases a <;> cases b <;> rfl
      rw [e]
      exact .bl _
    | _ => cases hg
  | _ => cases ry <;> cases hg
/-! ### places -/
def ixD (x y : PyData) : Option PyData := match x, y with
  | .list l, .int i => atI l i
  | .tuple l, .int i => atI l i
  | _, _ => none
theorem RpA.atI {F : Hp} {vs : List V} {ds : List PyData} {i : Int} {d : PyData} (r : RpA k F vs ds) (h : atI ds i = some d) : ∃ v, L2.atI vs i = some v ∧ Rp k F v d := by
  unfold L2.atI at h ⊢
  rw [r.length]
  obtain ⟨j, e1, e2⟩ := Option.bind_eq_some_iff.mp h
  obtain ⟨v, e3, e4⟩ := r.getD e2
  exact ⟨v, by rw [e1]; exact e3, e4⟩
theorem o_ix {K : PySem.W.Frag} : Op2 k (rIx K) ixD := fun F H x y dx dy d Q ex rx ry hg q => by
  cases ry with
  | int i => cases rx with
    | lst h r =>
      obtain ⟨v, e1, e2⟩ := r.atI (show atI _ i = some d from hg)
      exact .inl ⟨_, _, i, v, rfl, rfl, SqL.of (ex.e _ _ h), e1, q v F H (.refl ex) e2⟩
    | tup h r =>
      obtain ⟨v, e1, e2⟩ := r.atI (show atI _ i = some d from hg)
      exact .inr (.inl ⟨_, _, i, v, rfl, rfl, SqT.of (ex.e _ _ h), e1, q v F H (.refl ex) e2⟩)
    | _ => cases hg
  | _ => cases rx <;> cases hg
/-! ### + of lists, of tuples -/
def catL (x y : PyData) : Option PyData := match x, y with
  | .list a, .list b => if a.length + b.length ≤ sizeLine then some (.list (a ++ b)) else none
  | _, _ => none
def catT (x y : PyData) : Option PyData := match x, y with
  | .tuple a, .tuple b => if a.length + b.length ≤ sizeLine then some (.tuple (a ++ b)) else none
  | _, _ => none
theorem o_catL : Op2 k rCat catL := fun F H x y dx dy d Q ex rx ry hg q => by
  cases rx with
  | lst h r => cases ry with
    | lst h2 r2 =>
      have hg : (if _ then _ else _) = some d := hg
      split at hg
      · rename_i z
        cases hg
        exact ⟨_, _, _, _, rfl, rfl, ex.e _ _ h, ex.e _ _ h2, by rw [r.length, r2.length]; exact z, fun p hp => q _ _ _ (.new ex hp) (.lst upd_same ((r.append r2).mono (Ext.new (ex.back hp))))⟩
      · cases hg
    | _ => cases hg
  | _ => cases ry <;> cases hg
theorem nil_of {F : Hp} {ds : List PyData} (r : RpA k F [] ds) : ds = [] := by cases r; rfl
theorem o_catT {K : PySem.W.Frag} : Op2 k (rCatA K) catT := fun F H x y dx dy d Q ex rx ry hg q => by
  cases rx with
  | tup h r => cases ry with
    | tup h2 r2 =>
      have hg : (if _ then _ else _) = some d := hg
      split at hg
      · rename_i z
        cases hg
        refine ⟨_, _, _, _, rfl, rfl, SqT.of (ex.e _ _ h), SqT.of (ex.e _ _ h2), by rw [r.length, r2.length]; exact z, fun e => ?_, fun _ e => ?_, fun _ _ p hp => q _ _ _ (.new ex hp) (.tup upd_same ((r.append r2).mono (Ext.new (ex.back hp))))⟩
        · subst e
          cases r
          exact q _ F H (.refl ex) (.tup h2 r2)
        · subst e
          cases r2
          exact q _ F H (.refl ex) (by rw [List.append_nil]; exact .tup h r)
      · cases hg
    | _ => cases hg
  | _ => cases ry <;> cases hg
/-! ### built-ins -/
def absI (l : List PyData) : Option PyData := match l with
  | [.int i] => some (.int (if i < 0 then -i else i))
  | _ => none
def max2 (l : List PyData) : Option PyData := match l with
  | [.int i, .int j] => some (.int (if j > i then j else i))
  | _ => none
def min2 (l : List PyData) : Option PyData := match l with
  | [.int i, .int j] => some (.int (if j < i then j else i))
  | _ => none
def toI (l : List PyData) : Option PyData := match l with
  | [.int i] => some (.int i)
  | [.bool c] => some (.int (if c then 1 else 0))
  | _ => none
def lenD (l : List PyData) : Option PyData := match l with
  | [.list a] => some (.int a.length)
  | [.tuple a] => some (.int a.length)
  | _ => none
def toTup (l : List PyData) : Option PyData := match l with
  | [.tuple a] => some (.tuple a)
  | _ => none
theorem rpa1 {F : Hp} {xs : List V} {d : PyData} (r : RpA k F xs [d]) : ∃ v, xs = [v] ∧ Rp k F v d := by
  cases r with
  | cons a b => cases b; exact ⟨_, rfl, a⟩
theorem rpa2 {F : Hp} {xs : List V} {d e : PyData} (r : RpA k F xs [d, e]) : ∃ v u, xs = [v, u] ∧ Rp k F v d ∧ Rp k F u e := by
  cases r with
  | cons a b =>
    obtain ⟨u, rfl, c⟩ := rpa1 b
    exact ⟨_, u, rfl, a, c⟩
theorem o_abs : OpA k (fun xs H Q => ∃ i, xs = [.int i] ∧ Q (.int (if i < 0 then -i else i)) H) absI := fun F H xs ds d Q ex r hg q => by
  unfold absI at hg
  split at hg
  · cases hg
    obtain ⟨v, rfl, a⟩ := rpa1 r
    cases a
    exact ⟨_, rfl, q _ F H (.refl ex) (.int _)⟩
  · cases hg
theorem o_max2 : OpA k (fun xs H Q => ∃ i j, xs = [.int i, .int j] ∧ Q (.int (if j > i then j else i)) H) max2 := fun F H xs ds d Q ex r hg q => by
  unfold max2 at hg
  split at hg
  · cases hg
    obtain ⟨v, u, rfl, a, b⟩ := rpa2 r
    cases a
    cases b
    exact ⟨_, _, rfl, q _ F H (.refl ex) (.int _)⟩
  · cases hg
theorem o_min2 : OpA k (fun xs H Q => ∃ i j, xs = [.int i, .int j] ∧ Q (.int (if j < i then j else i)) H) min2 := fun F H xs ds d Q ex r hg q => by
  unfold min2 at hg
  split at hg
  · cases hg
    obtain ⟨v, u, rfl, a, b⟩ := rpa2 r
    cases a
    cases b
    exact ⟨_, _, rfl, q _ F H (.refl ex) (.int _)⟩
  · cases hg
theorem o_int : OpA k (fun xs H Q => (∃ i, xs = [.int i] ∧ Q (.int i) H) ∨ ∃ c, xs = [.bl c] ∧ Q (.int (if c then 1 else 0)) H) toI := fun F H xs ds d Q ex r hg q => by
  unfold toI at hg
  split at hg
  · cases hg
    obtain ⟨v, rfl, a⟩ := rpa1 r
    cases a
    exact .inl ⟨_, rfl, q _ F H (.refl ex) (.int _)⟩
  · cases hg
    obtain ⟨v, rfl, a⟩ := rpa1 r
    cases a
    exact .inr ⟨_, rfl, q _ F H (.refl ex) (.int _)⟩
  · cases hg
theorem o_len {K : PySem.W.Frag} : OpA k (fun xs H Q => ∃ p ys, xs = [.ref p] ∧ (SqL K H p ys ∨ SqT K H p ys) ∧ Q (.int ys.length) H) lenD := fun F H xs ds d Q ex r hg q => by
  unfold lenD at hg
  split at hg
  · cases hg
    obtain ⟨v, rfl, a⟩ := rpa1 r
    cases a with
    | lst h r => exact ⟨_, _, rfl, .inl (SqL.of (ex.e _ _ h)), q _ F H (.refl ex) (by rw [r.length]; exact .int _)⟩
  · cases hg
    obtain ⟨v, rfl, a⟩ := rpa1 r
    cases a with
    | tup h r => exact ⟨_, _, rfl, .inr (SqT.of (ex.e _ _ h)), q _ F H (.refl ex) (by rw [r.length]; exact .int _)⟩
  · cases hg
theorem o_toTup {K : PySem.W.Frag} : OpA k (fun xs H Q => ∃ p ys, xs = [.ref p] ∧ ((SqL K H p ys ∧ ∀ l, H l = none → Q (.ref l) (upd H l (.tup ys))) ∨ (SqT K H p ys ∧ Q (.ref p) H))) toTup := fun F H xs ds d Q ex r hg q => by
  unfold toTup at hg
  split at hg
  · cases hg
    obtain ⟨v, rfl, a⟩ := rpa1 r
    cases a with
    | tup h r => exact ⟨_, _, rfl, .inr ⟨SqT.of (ex.e _ _ h), q _ F H (.refl ex) (.tup h r)⟩⟩
  · cases hg
def intsOf : List PyData → Option (List Int)
  | [] => some []
  | .int i :: r => (intsOf r).map (i :: ·)
  | _ :: _ => none
def boolsOf : List PyData → Option (List Bool)
  | [] => some []
  | .bool i :: r => (boolsOf r).map (i :: ·)
  | _ :: _ => none
theorem ints_rp {F : Hp} : ∀ {ds : List PyData} {xs : List V} {ns : List Int}, RpA k F xs ds → intsOf ds = some ns → xs = ns.map V.int
  | [], _, _, r, h => by cases r; cases h; rfl
  | .int i :: ds, _, ns, r, h => by
    obtain ⟨m, e1, e2⟩ := Option.map_eq_some_iff.mp (show (intsOf ds).map (i :: ·) = some ns from h)
    subst e2
    cases r with
    | cons a b =>
      cases a
      rw [List.map_cons, ints_rp b e1]
  | .none :: _, _, _, _, h => by cases h
  | .bool _ :: _, _, _, _, h => by cases h
  | .str _ :: _, _, _, _, h => by cases h
  | .list _ :: _, _, _, _, h => by cases h
  | .tuple _ :: _, _, _, _, h => by cases h
  | .dict _ :: _, _, _, _, h => by cases h
theorem bools_rp {F : Hp} : ∀ {ds : List PyData} {xs : List V} {ns : List Bool}, RpA k F xs ds → boolsOf ds = some ns → xs = ns.map V.bl
  | [], _, _, r, h => by cases r; cases h; rfl
  | .bool i :: ds, _, ns, r, h => by
    obtain ⟨m, e1, e2⟩ := Option.map_eq_some_iff.mp (show (boolsOf ds).map (i :: ·) = some ns from h)
    subst e2
    cases r with
    | cons a b =>
      cases a
      rw [List.map_cons, bools_rp b e1]
  | .none :: _, _, _, _, h => by cases h
  | .int _ :: _, _, _, _, h => by cases h
  | .str _ :: _, _, _, _, h => by cases h
  | .list _ :: _, _, _, _, h => by cases h
  | .tuple _ :: _, _, _, _, h => by cases h
  | .dict _ :: _, _, _, _, h => by cases h
theorem rp_ints {F : Hp} : ∀ ns : List Int, RpA k F (ns.map V.int) (ns.map PyData.int)
  | [] => .nil
  | n :: r => .cons (.int n) (rp_ints r)
def sumD (l : List PyData) : Option PyData := match l with
  | [.list a] => (intsOf a).map fun ns => .int ns.sum
  | _ => none
def anyD (l : List PyData) : Option PyData := match l with
  | [.list a] => (boolsOf a).map fun ns => .bool (ns.any id)
  | _ => none
def allD (l : List PyData) : Option PyData := match l with
  | [.list a] => (boolsOf a).map fun ns => .bool (ns.all id)
  | _ => none
theorem o_sum {K : PySem.W.Frag} : OpA k (rSum K) sumD := fun F H xs ds d Q ex r hg q => by
  unfold sumD at hg
  split at hg
  · obtain ⟨ns, e1, rfl⟩ := Option.map_eq_some_iff.mp hg
    obtain ⟨v, rfl, a⟩ := rpa1 r
    cases a with
    | lst h r => exact ⟨_, ns, rfl, by rw [← ints_rp r e1]; exact SqL.of (ex.e _ _ h), q _ F H (.refl ex) (.int _)⟩
  · cases hg
theorem o_any {K : PySem.W.Frag} : OpA k (rAny K) anyD := fun F H xs ds d Q ex r hg q => by
  unfold anyD at hg
  split at hg
  · obtain ⟨ns, e1, rfl⟩ := Option.map_eq_some_iff.mp hg
    obtain ⟨v, rfl, a⟩ := rpa1 r
    cases a with
    | lst h r => exact ⟨_, ns, rfl, by rw [← bools_rp r e1]; exact SqL.of (ex.e _ _ h), q _ F H (.refl ex) (.bl _)⟩
  · cases hg
theorem o_all {K : PySem.W.Frag} : OpA k (rAll K) allD := fun F H xs ds d Q ex r hg q => by
  unfold allD at hg
  split at hg
  · obtain ⟨ns, e1, rfl⟩ := Option.map_eq_some_iff.mp hg
    obtain ⟨v, rfl, a⟩ := rpa1 r
    cases a with
    | lst h r => exact ⟨_, ns, rfl, by rw [← bools_rp r e1]; exact SqL.of (ex.e _ _ h), q _ F H (.refl ex) (.bl _)⟩
  · cases hg
end
section
variable {X : Cx} {k : Cl} {ow : List Nat} {a b c e : Expr} {es : List Expr} {fa fb fc : Dt → Option PyData} {pos : Pos}
/-- list(e) -/
def listOf (l : List PyData) : Option PyData := match l with
  | [.list a] => some (.list a)
  | [.tuple a] => some (.list a)
  | _ => none
theorem dn_list {x : Str} {p : Pos} {f : Dt → Option (List PyData)} (hg : Gl X x) (hm : X.mg x = none) (hv : bootBuiltins x = some (.type "list")) (ha : PA X (e :: es) (tDA k ow f))
    (hn : x ≠ "__name__" := by decide) (hdb : (x == ("__debug__" : Str)) = false := by decide) (he : starEach (e :: es) X.env = (false, eval e X.env) :: starEach es X.env := by rfl) (hpl : (backTo pos (starEach es X.env)).any (·.1) = false := by rfl) :
    PE X (.Call (.Name x p) (e :: es) [] pos) (tDN k ow (bA listOf f)) := pe_imp (pe_callTy call_list_of hg hm hv ha hn hdb he hpl) fun σ H Q ⟨me, H0, F, δ, ds, ex, x, hf, q⟩ => by
  obtain ⟨l, h1, h2⟩ := Option.bind_eq_some_iff.mp hf
  refine ⟨me, H0, F, δ, l, ex, x, h1, fun vs F1 H1 n1 r1 => ?_⟩
  unfold listOf at h2
  split at h2
  · cases h2
    obtain ⟨v, rfl, a⟩ := rpa1 r1
    cases a with
    | lst h r => exact ⟨_, _, rfl, .inl (SqL.of (n1.fh.e _ _ h)), fun p hp => q p _ F1 _ (n1.trans (.newH n1.fh hp)) (n1.h.back hp) (n1.fh.back hp) upd_same r⟩
  · cases h2
    obtain ⟨v, rfl, a⟩ := rpa1 r1
    cases a with
    | tup h r => exact ⟨_, _, rfl, .inr (SqT.of (n1.fh.e _ _ h)), fun p hp => q p _ F1 _ (n1.trans (.newH n1.fh hp)) (n1.h.back hp) (n1.fh.back hp) upd_same r⟩
  · cases h2
/-- [*e] -/
def starD (f : Dt → Option PyData) : Dt → Option PyData := fun δ => (f δ).bind fun d => (listOf [d]).bind fun l => match l with
  | .list a => (szOk a).map .list
  | _ => none
theorem dn_star {p : Pos} (h : PE X e (tD k ow fa)) (hs : starEach [.Starred e p] X.env = (true, eval e X.env) :: starEach [] X.env := by rfl) : PE X (.List [.Starred e p] pos) (tDN k ow (starD fa)) :=
  pe_imp (pe_lst (StX.pa_star h pa_nil hs)) fun σ H Q ⟨me, H0, F, δ, ds, ex, x, hf, q⟩ => by
  obtain ⟨d, h3, h4⟩ := Option.bind_eq_some_iff.mp hf
  obtain ⟨l, h5, h6⟩ := Option.bind_eq_some_iff.mp h4
  refine ⟨me, H0, F, δ, d, ex, x, h3, fun v F1 H1 n1 r1 => ?_⟩
  have fin : ∀ a xs, RpA k F1 xs a → l = .list a → xs.length ≤ sizeLine ∧ ∀ p, H1 p = none → Q (.ref p) (upd H1 p (.lst xs)) := fun a xs r e => by
    subst e
    obtain ⟨a2, h7, h8⟩ := Option.map_eq_some_iff.mp h6
    unfold szOk at h7
    split at h7
    · cases h7
      cases h8
      exact ⟨by rw [r.length]; assumption, fun p hp => q p _ F1 _ (n1.trans (.newH n1.fh hp)) (n1.h.back hp) (n1.fh.back hp) upd_same r⟩
    · cases h7
  unfold listOf at h5
  split at h5
  · rename_i z
    cases z
    cases h5
    cases r1 with
    | @lst _ xs _ h r => exact ⟨_, xs, rfl, .inr (SqL.of (n1.fh.e _ _ h)), by have z := fin _ _ r rfl; rw [← List.append_nil xs] at z; exact z⟩
  · rename_i z
    cases z
    cases h5
    cases r1 with
    | @tup _ xs _ h r => exact ⟨_, xs, rfl, .inl (SqT.of (n1.fh.e _ _ h)), by have z := fin _ _ r rfl; rw [← List.append_nil xs] at z; exact z⟩
  · cases h5
/-- a slice of a list -/
def cutD (l : List PyData) (lo hi : Option Int) : List PyData := (l.drop (HT.sIx l.length 0 lo)).take (HT.sIx l.length l.length hi - HT.sIx l.length 0 lo)
def tPt (f : Option (Dt → Option PyData)) : Dt → Option (Option Int) := fun δ => match f with
  | none => some none
  | some g => (g δ).bind fun d => match d with
    | .int i => some (some i)
    | _ => none
def tDO (k : Cl) (ow : List Nat) (f : Dt → Option (Option Int)) : TO := fun σ H Q => ∃ me H0 F δ o, FIn F H ∧ Sl k me H0 F H ow σ δ ∧ f δ = some o ∧ ∀ F' H', Nx k.T F H F' H' → Q o H'
theorem po_imp {e : Option Expr} {t t' : TO} (h : PO X e t) (i : ∀ σ H Q, t' σ H Q → t σ H Q) : PO X e t' := ⟨fun pins s σ H Q I q => h.run pins s σ H Q I (i σ H Q q)⟩
theorem do_none : PO X none (tDO k ow (tPt none)) := po_imp po_none fun σ H Q ⟨me, H0, F, δ, o, ex, x, hf, q⟩ => by
  cases hf
  exact q F H (.refl ex)
theorem do_some (h : PE X e (tD k ow fa)) : PO X (some e) (tDO k ow (tPt (some fa))) := po_imp (po_some h) fun σ H Q ⟨me, H0, F, δ, o, ex, x, hf, q⟩ => by
  obtain ⟨d, h1, h2⟩ := Option.bind_eq_some_iff.mp hf
  cases d with
  | int i =>
    cases h2
    exact ⟨me, H0, F, δ, .int i, ex, x, h1, fun v F1 H1 n1 r1 => by
      cases r1
      exact ⟨i, rfl, q F1 H1 n1⟩⟩
  | _ => cases h2
def slD (f : Dt → Option PyData) (l h : Dt → Option (Option Int)) : Dt → Option PyData := fun δ => (f δ).bind fun d => (l δ).bind fun lo => (h δ).bind fun hi => match d with
  | .list a => some (.list (cutD a lo hi))
  | _ => none
theorem dn_slice {lo hi : Option Expr} {p2 : Pos} {fl fh : Dt → Option (Option Int)} (ha : PE X a (tD k ow fa)) (hl : PO X lo (tDO k ow fl)) (hh : PO X hi (tDO k ow fh)) : PE X (.Subscript a (.Slice lo hi none p2) pos) (tDN k ow (slD fa fl fh)) :=
  pe_imp (pe_slice sl_list ha hl hh) fun σ H Q ⟨me, H0, F, δ, ds, ex, x, hf, q⟩ => by
  obtain ⟨d, h1, h2⟩ := Option.bind_eq_some_iff.mp hf
  obtain ⟨lo, h3, h4⟩ := Option.bind_eq_some_iff.mp h2
  obtain ⟨hi, h5, h6⟩ := Option.bind_eq_some_iff.mp h4
  cases d with
  | list a =>
    cases h6
    refine ⟨me, H0, F, δ, _, ex, x, h1, fun v F1 H1 n1 r1 => ⟨me, H0, F1, δ, lo, n1.fh, x.step n1, h3, fun F2 H2 n2 => ⟨me, H0, F2, δ, hi, n2.fh, (x.step n1).step n2, h5, fun F3 H3 n3 => ?_⟩⟩⟩
    cases r1 with
    | lst h r =>
      have n := (n1.trans n2).trans n3
      have r3 := r.mono (n2.f.trans n3.f)
      refine ⟨_, _, rfl, SqL.of (n3.fh.e _ _ (n3.f _ _ (n2.f _ _ h))), fun p hp => q p _ F3 _ (n.trans (.newH n3.fh hp)) (n.h.back hp) (n3.fh.back hp) upd_same ?_⟩
      unfold cutV cutD
      rw [r.length]
      exact (r3.drop _).take _
  | _ => cases h6
end
end Dl
set_option Elab.async false
set_option linter.all false
set_option maxRecDepth 100000
set_option maxHeartbeats 4000000
/-! isinstance, chains, fields, frozen readings, own lists, targets, what is walked. -/
namespace Dl
open PySem PySem.Spec PyProof.Rows L2

section
variable {X : Cx} {k : Cl} {ow : List Nat} {a b c e : Expr} {es : List Expr} {fa fb fc : Dt → Option PyData} {pos : Pos}
/-! ### isinstance -/
def tyName : PyData → Option String
  | .none => some "NoneType"
  | .bool _ => some "bool"
  | .int _ => some "int"
  | .str _ => some "str"
  | .list _ => some "list"
  | .tuple _ => some "tuple"
  | .dict _ => none
theorem tyX_of {K : PySem.W.Frag} {F H : Hp} {v : V} {d : PyData} {n : String} (ex : FIn F H) (r : Rp k F v d) (h : tyName d = some n) : TyX K H v (.type n) := by
  cases r with
  | non => cases h; exact .base .non
  | bl b => cases h; exact .base (.bl b)
  | int i => cases h; exact .base (.int i)
  | str x => cases h; exact .base (.str x)
  | lst z _ => cases h; exact .base (.lst (ex.e _ _ z))
  | tup z _ => cases h; exact .base (.tup (ex.e _ _ z))
  | ins _ _ => cases h
  | own _ _ => cases h
  | err _ _ => cases h
def isTy (tb : String → Option Bool) (d : PyData) : Option PyData := (tyName d).bind fun n => (tb n).map .bool
theorem d_isi {T : String} {x y : Str} {p p2 : Pos} {tb : String → Option Bool} (hg : Gl X x) (hm : X.mg x = none) (hv : bootBuiltins x = some (.builtin "isinstance")) (hg2 : Gl X y) (hm2 : X.mg y = none) (hv2 : bootBuiltins y = some (.type T)) (hy : y ≠ "__name__") (hy2 : (y == ("__debug__" : Str)) = false)
    (ht : ∀ n b, tb n = some b → PySem.W.kitOne X.K (.type n) (.type T) = some b) (ha : PE X e (tD k ow fa))
    (hn : x ≠ "__name__" := by decide) (hdb : (x == ("__debug__" : Str)) = false := by decide) (he : starEach [e, .Name y p2] X.env = (false, eval e X.env) :: starEach [.Name y p2] X.env := by rfl) (he2 : starEach [.Name y p2] X.env = (false, eval (.Name y p2) X.env) :: starEach [] X.env := by rfl) (hpl : (backTo pos (starEach [.Name y p2] X.env)).any (·.1) = false := by rfl) :
    PE X (.Call (.Name x p) [e, .Name y p2] [] pos) (tD k ow (b1 (isTy tb) fa)) :=
  pe_imp (pe_callB call_isi hg hm hv (pa_cons ha (pa_cons (pe_bltn hg2 hm2 hv2 (show RelV (.ty T) (.type T) from rfl) hy hy2) pa_nil he2) he) hn hdb he hpl) fun σ H Q ⟨me, H0, F, δ, d, ex, x, hf, q⟩ => by
  obtain ⟨d1, h1, h2⟩ := Option.bind_eq_some_iff.mp hf
  obtain ⟨n, h3, h4⟩ := Option.bind_eq_some_iff.mp h2
  obtain ⟨b, h5, h6⟩ := Option.map_eq_some_iff.mp h4
  subst h6
  exact ⟨me, H0, F, δ, d1, ex, x, h1, fun v F1 H1 n1 r1 => ⟨v, .ty T, .type n, .type T, b, rfl, .ty T, tyX_of n1.fh r1 h3, ht n b h5, q _ F1 H1 n1 (.bl b)⟩⟩
/-! ### chains -/
def chD (g g' : PyData → PyData → Option PyData) (fa fb fc : Dt → Option PyData) : Dt → Option PyData := fun δ => (fa δ).bind fun x => (fb δ).bind fun y => (g x y).bind fun z => match z with
  | .bool true => (fc δ).bind fun w => g' y w
  | .bool false => some (.bool false)
  | _ => none
theorem ch_tD {r r' : R2} {g g' : PyData → PyData → Option PyData} (o : Op2 k r g) (o' : Op2 k r' g') : ∀ σ H Q, tD k ow (chD g g' fa fb fc) σ H Q → tChain r r' (tD k ow fa) (tD k ow fb) (tD k ow fc) σ H Q := fun σ H Q ⟨me, H0, F, δ, d, ex, x, hf, q⟩ => by
  obtain ⟨dx, h1, h2⟩ := Option.bind_eq_some_iff.mp hf
  obtain ⟨dy, h3, h4⟩ := Option.bind_eq_some_iff.mp h2
  obtain ⟨dz, h5, h6⟩ := Option.bind_eq_some_iff.mp h4
  refine ⟨me, H0, F, δ, dx, ex, x, h1, fun v F1 H1 n1 r1 => ⟨me, H0, F1, δ, dy, n1.fh, x.step n1, h3, fun u F2 H2 n2 r2 => o F2 H2 v u dx dy dz _ n2.fh (r1.mono n2.f) r2 h5 fun z F3 H3 n3 r3 => ?_⟩⟩
  have n := (n1.trans n2).trans n3
  cases r3 with
  | bl c =>
    refine ⟨c, rfl, ?_⟩
    cases c with
    | true =>
      obtain ⟨dw, h7, h8⟩ := Option.bind_eq_some_iff.mp h6
      exact ite2 (fun _ => ⟨me, H0, F3, δ, dw, n3.fh, x.step n, h7, fun w F4 H4 n4 r4 => o' F4 H4 u w dy dw d Q n4.fh ((r2.mono n3.f).mono n4.f) r4 h8 fun w F5 H5 n5 r5 => q w F5 H5 ((n.trans n4).trans n5) r5⟩) (fun z => absurd rfl z)
    | false =>
      cases h6
      exact ite2 (fun z => nomatch z) (fun _ => q _ F3 H3 n (.bl false))
  | _ => cases h6
theorem d_chain {op op' : CmpOp} {r r' : R2} {g g' : PyData → PyData → Option PyData} (ho : OpR X (compareOp op) r) (ho' : OpR X (compareOp op') r') (o : Op2 k r g) (o' : Op2 k r' g') (ha : PE X a (tD k ow fa)) (hb : PE X b (tD k ow fb)) (hc : PE X c (tD k ow fc))
    (hm : lastMarks [op, op'] [b, c] = false := by with_unfolding_all rfl) : PE X (.Compare a [op, op'] [b, c] pos) (tD k ow (chD g g' fa fb fc)) := pe_imp (pe_chain ho ho' ha hb hc hm) (ch_tD o o')
theorem dt_chain {op op' : CmpOp} {r r' : R2} {g g' : PyData → PyData → Option PyData} (ho : OpR X (compareOp op) r) (ho' : OpR X (compareOp op') r') (o : Op2 k r g) (o' : Op2 k r' g') (ha : PE X a (tD k ow fa)) (hb : PE X b (tD k ow fb)) (hc : PE X c (tD k ow fc))
    (hm : lastMarks [op, op'] [b, c] = false := by with_unfolding_all rfl) : PT X (.Compare a [op, op'] [b, c] pos) (tDT k ow (tB (chD g g' fa fb fc))) :=
  pt_imp (pt_chain ho ho' ha hb hc hm) fun σ H Q ⟨me, H0, F, δ, z, ex, x, hf, q⟩ => ch_tD (fa := fa) (fb := fb) (fc := fc) o o' σ H _ ⟨me, H0, F, δ, .bool z, ex, x, tB_some hf, fun v F' H' n r => by
    cases r
    exact ⟨z, rfl, q F' H' n⟩⟩
/-- a list's truth -/
def truL (f : Dt → Option PyData) : Dt → Option Bool := fun δ => (f δ).bind fun d => match d with
  | .list l => some (!l.isEmpty)
  | _ => none
theorem dt_tru (h : PE X e (tD k ow fa)) (he : ∀ whole, isTrue e X.env whole = (do let v ← whole; standAt e.pos; holding [v] (truthy v))) : PT X e (tDT k ow (truL fa)) :=
  pt_imp (pt_truth h he) fun σ H Q ⟨me, H0, F, δ, z, ex, x, hf, q⟩ => by
  obtain ⟨d, h1, h2⟩ := Option.bind_eq_some_iff.mp hf
  cases d with
  | list l =>
    cases h2
    exact ⟨me, H0, F, δ, _, ex, x, h1, fun v F1 H1 n1 r1 => by
      cases r1 with
      | lst h r => exact ⟨_, .inl ⟨_, SqL.of (n1.fh.e _ _ h), by cases r <;> rfl⟩, q F1 H1 n1⟩⟩
  | _ => cases h2
/-! ### fields of frozen instances -/
def fldS (f : Str) : PyData → Option PyData
  | .dict ((.none, .int 0) :: kvs) => getF f kvs
  | _ => none
def fldO (f : Str) : PyData → Option PyData
  | .dict ((.none, .int 1) :: kvs) => getF f kvs
  | _ => none
theorem fldS_some {f : Str} {x d : PyData} (h : fldS f x = some d) : ∃ kvs, x = .dict ((.none, .int 0) :: kvs) ∧ getF f kvs = some d := by
  unfold fldS at h
  split at h
  · exact ⟨_, rfl, h⟩
  · cases h
theorem fldO_some {f : Str} {x d : PyData} (h : fldO f x = some d) : ∃ kvs, x = .dict ((.none, .int 1) :: kvs) ∧ getF f kvs = some d := by
  unfold fldO at h
  split at h
  · exact ⟨_, rfl, h⟩
  · cases h
theorem d_fldS {f : Str} (cl : Cls X.K k.S) (na : NoAttr X.K k.S f) (h : PE X e (tD k ow fa)) (hb : attributeBase e f X.env (eval e X.env) = eval e X.env := by rfl) : PE X (.Attribute e f pos) (tD k ow (b1 (fldS f) fa)) :=
  pe_imp (pe_fld h hb) fun σ H Q ⟨me, H0, F, δ, d, ex, x, hf, q⟩ => by
  obtain ⟨d1, h1, h2⟩ := Option.bind_eq_some_iff.mp hf
  obtain ⟨kvs, rfl, h3⟩ := fldS_some h2
  exact ⟨me, H0, F, δ, _, ex, x, h1, fun v F1 H1 n1 r1 => by
    cases r1 with
    | ins z r =>
      obtain ⟨u, e1, e2⟩ := r.lookup h3
      exact ⟨_, _, _, _, u, rfl, n1.fh.e _ _ z, cl, na, e1, q u F1 H1 n1 e2⟩⟩
theorem d_fldO {f : Str} (cl : Cls X.K k.O) (na : NoAttr X.K k.O f) (h : PE X e (tD k ow fa)) (hb : attributeBase e f X.env (eval e X.env) = eval e X.env := by rfl) : PE X (.Attribute e f pos) (tD k ow (b1 (fldO f) fa)) :=
  pe_imp (pe_fld h hb) fun σ H Q ⟨me, H0, F, δ, d, ex, x, hf, q⟩ => by
  obtain ⟨d1, h1, h2⟩ := Option.bind_eq_some_iff.mp hf
  obtain ⟨kvs, rfl, h3⟩ := fldO_some h2
  exact ⟨me, H0, F, δ, _, ex, x, h1, fun v F1 H1 n1 r1 => by
    cases r1 with
    | own z r =>
      obtain ⟨u, e1, e2⟩ := r.lookup h3
      exact ⟨_, _, _, _, u, rfl, n1.fh.e _ _ z, cl, na, e1, q u F1 H1 n1 e2⟩⟩

/-! ### readings while what changes stands still -/
def OwnA (ow : List Nat) (σ : L2.St) (δ : Dt) (a : Addr) : Prop := ∃ i d, i ∈ ow ∧ δ[i]? = some (some d) ∧ σ[i]? = some (some (.ref a))
noncomputable def fzH (F H : Hp) (P : Addr → Prop) : Hp := fun a => open Classical in if P a then H a else F a
theorem fzH_yes {F H : Hp} {P : Addr → Prop} {a : Addr} (h : P a) : fzH F H P a = H a := if_pos h
theorem fzH_no {F H : Hp} {P : Addr → Prop} {a : Addr} (h : ¬ P a) : fzH F H P a = F a := if_neg h
theorem Sl.ownF {me : Option Addr} {H0 F H : Hp} {σ : L2.St} {δ : Dt} (x : Sl k me H0 F H ow σ δ) {a : Addr} (h : OwnA ow σ δ a) : F a = none ∧ ∃ o, H a = some o := by
  obtain ⟨i, d, h1, h2, h3⟩ := h
  obtain ⟨l, e1, _, e2⟩ := x.own i d h1 h2
  rw [h3] at e1
  cases e1
  exact ⟨e2.1, e2.there⟩
theorem fz_ext {me : Option Addr} {H0 F H : Hp} {σ : L2.St} {δ : Dt} (ex : FIn F H) (x : Sl k me H0 F H ow σ δ) : Ext F (fzH F H (OwnA ow σ δ)) ∧ FIn (fzH F H (OwnA ow σ δ)) H := by
  constructor
  · intro a o h
    by_cases z : OwnA ow σ δ a
    · rw [(x.ownF z).1] at h; cases h
    · rw [fzH_no z]; exact h
  · refine ⟨fun a o h => ?_, fun a ps h => ?_⟩
    · by_cases z : OwnA ow σ δ a
      · rw [fzH_yes z] at h; exact h
      · rw [fzH_no z] at h; exact ex.e a o h
    · by_cases z : OwnA ow σ δ a
      · rw [fzH_yes z] at h
        obtain ⟨i, d, h1, h2, h3⟩ := z
        obtain ⟨l, e1, _, e2⟩ := x.own i d h1 h2
        rw [h3] at e1
        cases e1
        exact e2.nt ps h
      · rw [fzH_no z] at h; exact ex.nf a ps h
theorem Sl.frz {me : Option Addr} {H0 F H : Hp} {σ : L2.St} {δ : Dt} (ex : FIn F H) (x : Sl k me H0 F H ow σ δ) : Sl k me H0 (fzH F H (OwnA ow σ δ)) H [] σ δ := by
  obtain ⟨e1, e2⟩ := fz_ext ex x
  refine ⟨x.len, fun i d _ h => ?_, fun i d h => absurd h (by simp), fun i j a b h => absurd h (by simp), x.tab⟩
  by_cases hi : i ∈ ow
  · obtain ⟨l, a1, a2, a3⟩ := x.own i d hi h
    refine ⟨_, a1, ?_⟩
    have ho : OwnA ow σ δ l := ⟨i, d, hi, h, a1⟩
    rcases a3.2 with ⟨xs, ds, z, r, rfl⟩ | ⟨dx, fs, kvs, z, r, rfl⟩
    · exact .lst (by rw [fzH_yes ho]; exact z) (r.mono e1)
    · exact .own (by rw [fzH_yes ho]; exact z) (r.mono e1)
  · obtain ⟨v, a1, a2⟩ := x.fz i d hi h
    exact ⟨v, a1, a2.mono e1⟩
theorem dt_frz {f : Dt → Option Bool} (h : PT X e (tDT k [] f)) : PT X e (tDT k ow f) := pt_imp h fun σ H Q ⟨me, H0, F, δ, z, ex, x, hf, q⟩ =>
  ⟨me, H0, _, δ, z, (fz_ext ex x).2, x.frz ex, hf, fun F' H' n => q F H' ⟨n.h, Ext.refl _, ex.gr n.h, fun _ _ _ z => z⟩⟩
def gFlat (f : Dt → Option PyData) : Dt → Option PyData := fun δ => (f δ).bind fun d => if flat d then some d else none
theorem d_frzF (h : PE X e (tD k [] fa)) : PE X e (tD k ow (gFlat fa)) := pe_imp h fun σ H Q ⟨me, H0, F, δ, d, ex, x, hf, q⟩ => by
  obtain ⟨d1, h1, h2⟩ := Option.bind_eq_some_iff.mp hf
  split at h2
  · rename_i z
    cases h2
    exact ⟨me, H0, _, δ, d, (fz_ext ex x).2, x.frz ex, h1, fun v F' H' n r => q v F H' ⟨n.h, Ext.refl _, ex.gr n.h, fun _ _ _ z => z⟩ (r.flat z)⟩
  · cases h2
def isDict : PyData → Bool
  | .dict _ => true
  | _ => false
/-- the slots of ow hold the instance, or nothing -/
def ownI (ow : List Nat) (δ : Dt) : Bool := ow.all fun i => match (δ[i]?).join with
  | some d => isDict d
  | none => true
def gOwn (ow : List Nat) (f : Dt → Option PyData) : Dt → Option PyData := fun δ => (f δ).bind fun d => if noO d && ownI ow δ then some d else none
theorem d_frzO (hk : k.S ≠ k.O) (h : PE X e (tD k [] fa)) : PE X e (tD k ow (gOwn ow fa)) := pe_imp h fun σ H Q ⟨me, H0, F, δ, d, ex, x, hf, q⟩ => by
  obtain ⟨d1, h1, h2⟩ := Option.bind_eq_some_iff.mp hf
  split at h2
  · rename_i z
    cases h2
    obtain ⟨z1, z2⟩ := Bool.and_eq_true_iff.mp z
    refine ⟨me, H0, _, δ, d, (fz_ext ex x).2, x.frz ex, h1, fun v F' H' n r => ?_⟩
    have hP : ∀ a, OwnA ow σ δ a → ∃ dx fs, F' a = some (.ins k.O dx fs) := fun a ha => by
      obtain ⟨i, u, i1, i2, i3⟩ := id ha
      obtain ⟨l, e1, _, e2, e3⟩ := x.own i u i1 i2
      rw [i3] at e1
      cases e1
      rcases e3 with ⟨xs, ds, _, _, rfl⟩ | ⟨dx, fs, kvs, y, _, _⟩
      · have y := List.all_eq_true.mp z2 i i1
        rw [i2] at y
        cases y
      · exact ⟨dx, fs, n.f _ _ (by rw [fzH_yes ha]; exact y)⟩
    refine q v (cutH F' (OwnA ow σ δ)) H' ⟨n.h, fun a o y => ?_, ⟨fun a o y => ?_, fun a ps y => ?_⟩, fun a o y w => ?_⟩ (r.cut hP hk z1)
    · have no : ¬ OwnA ow σ δ a := fun z => by rw [(x.ownF z).1] at y; cases y
      rw [cutH_yes no]
      exact n.f _ _ (by rw [fzH_no no]; exact y)
    · by_cases no : OwnA ow σ δ a
      · rw [cutH_no no] at y; cases y
      · rw [cutH_yes no] at y; exact n.fh.e a o y
    · by_cases no : OwnA ow σ δ a
      · rw [cutH_no no] at y; cases y
      · rw [cutH_yes no] at y; exact n.fh.nf a ps y
    · by_cases no : OwnA ow σ δ a
      · exact cutH_no no
      · rw [cutH_yes no]
        exact n.fr a o y (by rw [fzH_no no]; exact w)
  · cases h2
/-! ### own lists read -/
theorem Sl.ownL {me : Option Addr} {H0 F H : Hp} {σ : L2.St} {δ : Dt} {i : Nat} {ds : List PyData} (x : Sl k me H0 F H ow σ δ) (hi : i ∈ ow) (h : δ[i]? = some (some (.list ds))) : ∃ l xs, σ[i]? = some (some (.ref l)) ∧ F l = none ∧ H l = some (.lst xs) ∧ RpA k F xs ds := by
  obtain ⟨l, e1, _, e2, e3⟩ := x.own i _ hi h
  rcases e3 with ⟨xs, ds', z, r, e⟩ | ⟨_, _, _, _, _, e⟩
  · cases e
    exact ⟨l, xs, e1, e2, z, r⟩
  · cases e
theorem d_itemOwn {i : Nat} {n : Expr} (hn : PE X n (tVar i)) (hi : i ∈ ow) (hb : PE X b (tD k ow fb)) (hs : PlainIx b) : PE X (.Subscript n b pos) (tD k ow (b2 ixD (asL (vr i)) fb)) :=
  pe_imp (pe_ix ix_list hn hb hs) fun σ H Q ⟨me, H0, F, δ, d, ex, x, hf, q⟩ => by
  obtain ⟨u, w, h1, h2, h3⟩ := b2_some hf
  obtain ⟨ds, rfl, h4⟩ := asL_some h1
  obtain ⟨l, xs, e1, e2, e3, e4⟩ := x.ownL hi (vr_some h4)
  refine ⟨_, e1, me, H0, F, δ, w, ex, x, h2, fun v F1 H1 n1 r1 => ?_⟩
  cases r1 with
  | int j =>
    obtain ⟨y, z1, z2⟩ := (e4.mono n1.f).atI (show atI ds j = some d from h3)
    exact ⟨l, xs, j, y, rfl, rfl, SqL.of (n1.h.g e3), z1, q y F1 H1 n1 z2⟩
  | _ => cases h3
theorem dn_listOwn {i : Nat} {x : Str} {p : Pos} (hi : i ∈ ow) (hg : Gl X x) (hm : X.mg x = none) (hv : bootBuiltins x = some (.type "list")) (ha : PE X e (tVar i))
    (hn : x ≠ "__name__" := by decide) (hdb : (x == ("__debug__" : Str)) = false := by decide) (he : starEach [e] X.env = (false, eval e X.env) :: starEach [] X.env := by rfl) (hpl : (backTo pos (starEach [] X.env)).any (·.1) = false := by rfl) :
    PE X (.Call (.Name x p) [e] [] pos) (tDN k ow (asL (vr i))) := pe_imp (pe_callTy call_list_of hg hm hv (pa_cons ha pa_nil he) hn hdb he hpl) fun σ H Q ⟨me, H0, F, δ, ds, ex, x, hf, q⟩ => by
  obtain ⟨ds', e0, h4⟩ := asL_some hf
  cases e0
  obtain ⟨l, xs, e1, e2, e3, e4⟩ := x.ownL hi (vr_some h4)
  exact ⟨_, e1, l, xs, rfl, .inl (SqL.of e3), fun p hp => q p xs F _ (.newH ex hp) hp (ex.back hp) upd_same e4⟩
end

/-! ### targets -/
def tG (k : Cl) (ow js : List Nat) (h : PyData → Dt → Option Dt) : TG := fun v σ H Q => ∃ me H0 F δ d δ', FIn F H ∧ Sl k me H0 F H ow σ δ ∧ Rp k F v d ∧ h d δ = some δ' ∧ ∀ σ', Sl k me H0 F H ow σ' δ' → σ'.length = σ.length → (∀ j, j ∉ js → σ'[j]? = σ[j]?) → Q σ' H
def tGs (k : Cl) (ow js : List Nat) (h : List PyData → Dt → Option Dt) : TGs := fun vs σ H Q => ∃ me H0 F δ ds δ', FIn F H ∧ Sl k me H0 F H ow σ δ ∧ RpA k F vs ds ∧ h ds δ = some δ' ∧ ∀ σ', Sl k me H0 F H ow σ' δ' → σ'.length = σ.length → (∀ j, j ∉ js → σ'[j]? = σ[j]?) → Q σ' H
theorem pg_imp {X : Cx} {e : Expr} {t t' : TG} (h : PG X e t) (i : ∀ v σ H Q, t' v σ H Q → t v σ H Q) : PG X e t' := ⟨fun pins s σ H v u Q I r q => h.run pins s σ H v u Q I r (i v σ H Q q)⟩
theorem pgs_imp {X : Cx} {e : List Expr} {t t' : TGs} (h : PGs X e t) (i : ∀ v σ H Q, t' v σ H Q → t v σ H Q) : PGs X e t' := ⟨fun pins s σ H v u Q I r q => h.run pins s σ H v u Q I r (i v σ H Q q)⟩
section
variable {X : Cx} {k : Cl} {ow : List Nat} {e : Expr} {es : List Expr} {pos : Pos}
theorem Sl.setF {me : Option Addr} {H0 F H : Hp} {σ : L2.St} {δ : Dt} {i : Nat} {v : V} {d : PyData} (x : Sl k me H0 F H ow σ δ) (hi : i ∉ ow) (r : Rp k F v d) : Sl k me H0 F H ow (σ.set i (some v)) (δ.set i (some d)) := by
  refine ⟨by rw [List.length_set, List.length_set]; exact x.len, fun j u hj e => ?_, fun j u hj e => ?_, fun j l a b hj hl n e1 e2 => ?_, x.tab⟩
  · by_cases h : i = j
    · subst h
      by_cases hl : i < δ.length
      · rw [List.getElem?_set_self hl] at e
        cases e
        exact ⟨v, by rw [List.getElem?_set_self (by rw [x.len]; exact hl)], r⟩
      · rw [List.getElem?_eq_none (by rw [List.length_set]; omega)] at e
        cases e
    · rw [List.getElem?_set_ne h] at e ⊢
      exact x.fz j u hj e
  · have h : i ≠ j := fun z => hi (z ▸ hj)
    rw [List.getElem?_set_ne h] at e ⊢
    exact x.own j u hj e
  · have h : i ≠ j := fun z => hi (z ▸ hj)
    have h2 : i ≠ l := fun z => hi (z ▸ hl)
    rw [List.getElem?_set_ne h] at e1 ⊢
    rw [List.getElem?_set_ne h2] at e2 ⊢
    exact x.ne j l a b hj hl n e1 e2
def setD (i : Nat) : PyData → Dt → Option Dt := fun d δ => some (δ.set i (some d))
theorem dg_name {i : Nat} (h : PG X e (gName i)) (hi : i ∉ ow := by decide) : PG X e (tG k ow [i] (setD i)) := pg_imp h fun v σ H Q ⟨me, H0, F, δ, d, δ', ex, x, r, hf, q⟩ => by
  cases hf
  exact q _ (x.setF hi r) (List.length_set ..) fun j hj => List.getElem?_set_ne (by intro z; subst z; simp at hj)
def gsNil : List PyData → Dt → Option Dt := fun ds δ => match ds with
  | [] => some δ
  | _ => none
def gsCons (g : PyData → Dt → Option Dt) (h : List PyData → Dt → Option Dt) : List PyData → Dt → Option Dt := fun ds δ => match ds with
  | d :: r => (g d δ).bind (h r)
  | [] => none
theorem dgs_nil : PGs X [] (tGs k ow [] gsNil) := pgs_imp pgs_nil fun v σ H Q ⟨me, H0, F, δ, ds, δ', ex, x, r, hf, q⟩ => by
  cases r with
  | nil =>
    cases hf
    exact ⟨rfl, q _ x rfl fun _ _ => rfl⟩
  | cons _ _ => cases hf
theorem dgs_cons {js js' : List Nat} {g : PyData → Dt → Option Dt} {h : List PyData → Dt → Option Dt} (h1 : PG X e (tG k ow js g)) (h2 : PGs X es (tGs k ow js' h)) (hs : (assignEach (e :: es) X.env).map (·.2) = assign e X.env :: (assignEach es X.env).map (·.2) := by rfl) : PGs X (e :: es) (tGs k ow (js ++ js') (gsCons g h)) :=
  pgs_imp (pgs_cons h1 h2 hs) fun v σ H Q ⟨me, H0, F, δ, ds, δ', ex, x, r, hf, q⟩ => by
  cases r with
  | nil => cases hf
  | @cons v1 vs d ds r1 r2 =>
    obtain ⟨δ1, e1, e2⟩ := Option.bind_eq_some_iff.mp hf
    refine ⟨v1, vs, rfl, me, H0, F, δ, d, δ1, ex, x, r1, e1, fun σ1 x1 l1 k1 => ⟨me, H0, F, δ1, ds, δ', ex, x1, r2, e2, fun σ2 x2 l2 k2 => q σ2 x2 (l2.trans l1) fun j hj => ?_⟩⟩
    rw [List.mem_append, not_or] at hj
    exact (k2 j hj.2).trans (k1 j hj.1)
def gT (n : Nat) (h : List PyData → Dt → Option Dt) : PyData → Dt → Option Dt := fun d δ => match d with
  | .tuple l => if l.length = n then h l δ else none
  | _ => none
theorem dg_tup {kk n : Nat} {js : List Nat} {h : List PyData → Dt → Option Dt} (hc : X.calm = true) (hs : PGs X es (tGs k ow js h)) (hn : (assignEach es X.env).length = n := by rfl) (hst : (assignEach es X.env).findIdx? (·.1) = none := by rfl) : PG X (.Tuple es kk pos) (tG k ow js (gT n h)) :=
  pg_imp (pg_tup hc hs hn hst) fun v σ H Q ⟨me, H0, F, δ, d, δ', ex, x, r, hf, q⟩ => by
  cases r with
  | tup z r =>
    have hf : (if _ then _ else _) = some δ' := hf
    split at hf
    · rename_i hl
      exact ⟨_, _, rfl, SqT.of (ex.e _ _ z), by rw [r.length]; exact hl, me, H0, F, δ, _, δ', ex, x, r, hf, q⟩
    · cases hf
  | _ => cases hf
end

/-! ### what is walked -/
/-- J yields the data ds, one by one, at every heap that bears F and is P -/
def WalkD (k : Cl) (F : Hp) (P : Hp → Prop) (ds : List PyData) (J : It) : Prop := ∀ i H F1, Ext F F1 → FIn F1 H → P H → (∀ d, ds[i]? = some d → J.go i H ∧ ∀ x H', J.yld i H x H' → ∃ F2, Nx k.T F1 H F2 H' ∧ Rp k F2 x d) ∧ (ds.length ≤ i → J.stop i H)
def tI (k : Cl) (ow : List Nat) (f : Dt → Option (List PyData)) : TI := fun σ H R => ∃ me H0 F δ ds, FIn F H ∧ Sl k me H0 F H ow σ δ ∧ f δ = some ds ∧ ∀ J F' H', Nx k.T F H F' H' → WalkD k F' (fun _ => True) ds J → R J H'
/-- .. while what changes stands still -/
def tIw (k : Cl) (ow : List Nat) (f : Dt → Option (List PyData)) : TI := fun σ H R => ∃ me H0 F δ ds, FIn F H ∧ Sl k me H0 F H ow σ δ ∧ f δ = some ds ∧ ∀ J F' H', Nx k.T F H F' H' → WalkD k F' (Gr k.T H') ds J → R J H'
theorem pi_imp {X : Cx} {tg e : Expr} {t t' : TI} (h : PI X tg e t) (i : ∀ σ H R, t' σ H R → t σ H R) : PI X tg e t' := ⟨fun pins s σ H R I q => h.run pins s σ H R I (i σ H R q)⟩
section
variable {X : Cx} {k : Cl} {ow : List Nat} {tg e : Expr} {es : List Expr} {fa : Dt → Option PyData} {pos : Pos}
theorem di_weak {f : Dt → Option (List PyData)} (h : PI X tg e (tI k ow f)) : PI X tg e (tIw k ow f) := pi_imp h fun σ H R ⟨me, H0, F, δ, ds, ex, x, hf, q⟩ =>
  ⟨me, H0, F, δ, ds, ex, x, hf, fun J F' H' n w => q J F' H' n fun i H2 F2 a b _ => w i H2 F2 a b trivial⟩
theorem walk_list {K : PySem.W.Frag} {F : Hp} {a : Addr} {xs : List V} {ds : List PyData} (h : F a = some (.lst xs)) (r : RpA k F xs ds) : WalkD k F (fun _ => True) ds (Itl K a) := fun i H F1 e1 e2 _ =>
  ⟨fun d hd => by
    obtain ⟨v, h1, h2⟩ := r.getD hd
    refine ⟨⟨xs, v, SqL.of (e2.e _ _ (e1 _ _ h)), h1⟩, fun x H' ⟨eh, hx⟩ => ?_⟩
    subst eh
    have z := hx xs (SqL.of (e2.e _ _ (e1 _ _ h)))
    rw [h1] at z
    cases z
    exact ⟨F1, .refl e2, h2.mono e1⟩, fun hl => ⟨xs, SqL.of (e2.e _ _ (e1 _ _ h)), by rw [r.length]; exact hl⟩⟩
def listI (f : Dt → Option PyData) : Dt → Option (List PyData) := fun δ => (f δ).bind fun d => match d with
  | .list l => some l
  | _ => none
theorem listI_some {f : Dt → Option PyData} {δ : Dt} {ds : List PyData} (h : listI f δ = some ds) : f δ = some (.list ds) := by
  obtain ⟨d, h1, h2⟩ := Option.bind_eq_some_iff.mp h
  cases d with
  | list l => cases h2; exact h1
  | _ => cases h2
theorem di_list (h : PE X e (tD k ow fa)) : PI X tg e (tI k ow (listI fa)) := pi_imp (pi_list h) fun σ H R ⟨me, H0, F, δ, ds, ex, x, hf, q⟩ =>
  ⟨me, H0, F, δ, .list ds, ex, x, listI_some hf, fun v F1 H1 n1 r1 => by
    cases r1 with
    | lst z r => exact ⟨_, rfl, ⟨_, SqL.of (n1.fh.e _ _ z)⟩, q _ F1 H1 n1 (walk_list z r)⟩⟩
theorem di_own {i : Nat} (h : PE X e (tVar i)) (hi : i ∈ ow) : PI X tg e (tIw k ow (listI (vr i))) := pi_imp (pi_list h) fun σ H R ⟨me, H0, F, δ, ds, ex, x, hf, q⟩ => by
  obtain ⟨l, xs, e1, e2, e3, e4⟩ := x.ownL hi (vr_some (listI_some hf))
  refine ⟨_, e1, l, rfl, ⟨xs, SqL.of e3⟩, q _ F H (.refl ex) fun i H2 F2 a b p => ⟨fun d hd => ?_, fun hl => ⟨xs, SqL.of (p.g e3), by rw [e4.length]; exact hl⟩⟩⟩
  obtain ⟨v, h1, h2⟩ := e4.getD hd
  refine ⟨⟨xs, v, SqL.of (p.g e3), h1⟩, fun x H' ⟨eh, hx⟩ => ?_⟩
  subst eh
  have z := hx xs (SqL.of (p.g e3))
  rw [h1] at z
  cases z
  exact ⟨F2, .refl b, h2.mono a⟩
def rngL (lo : Int) (n : Nat) : List PyData := (List.range n).map fun (i : Nat) => .int (lo + (i : Int))
theorem rngL_get {lo : Int} {n i : Nat} {d : PyData} (h : (rngL lo n)[i]? = some d) : i < n ∧ d = .int (lo + (i : Int)) := by
  unfold rngL at h
  rw [List.getElem?_map] at h
  obtain ⟨j, e1, e2⟩ := Option.map_eq_some_iff.mp h
  have hl : i < n := by
    have z := (List.getElem?_eq_some_iff.mp e1).1
    rw [List.length_range] at z
    exact z
  rw [List.getElem?_range hl] at e1
  cases e1
  exact ⟨hl, e2.symm⟩
theorem walk_rng {F : Hp} {lo : Int} {n : Nat} : WalkD k F (fun _ => True) (rngL lo n) (Itr lo n) := fun i H F1 e1 e2 _ =>
  ⟨fun d hd => by
    obtain ⟨h1, rfl⟩ := rngL_get hd
    refine ⟨h1, fun x H' ⟨eh, hx⟩ => ?_⟩
    subst eh
    subst hx
    exact ⟨F1, .refl e2, .int _⟩, fun hl => by
    unfold rngL at hl
    rw [List.length_map, List.length_range] at hl
    exact hl⟩
def rng1 (f : Dt → Option (List PyData)) : Dt → Option (List PyData) := fun δ => (f δ).bind fun l => match l with
  | [.int j] => if -(2 ^ 62) ≤ j ∧ j < 2 ^ 62 then some (rngL 0 j.toNat) else none
  | _ => none
def rng2 (f : Dt → Option (List PyData)) : Dt → Option (List PyData) := fun δ => (f δ).bind fun l => match l with
  | [.int i, .int j] => if -(2 ^ 62) ≤ i ∧ i < 2 ^ 62 ∧ -(2 ^ 62) ≤ j ∧ j < 2 ^ 62 then some (rngL i (j - i).toNat) else none
  | _ => none
theorem di_rng1 {a : Expr} {p : Pos} {f : Dt → Option (List PyData)} (hg : Gl X "range") (hm : X.mg "range" = none) (ha : PA X [a] (tDA k ow f)) (hs : starEach [a] X.env = [(false, eval a X.env)] := by rfl) : PI X tg (.Call (.Name "range" p) [a] [] pos) (tI k ow (rng1 f)) :=
  pi_imp (pi_range1 hg hm ha hs) fun σ H R ⟨me, H0, F, δ, ds, ex, x, hf, q⟩ => by
  obtain ⟨l, h1, h2⟩ := Option.bind_eq_some_iff.mp hf
  split at h2
  · rename_i j
    split at h2
    · rename_i z
      cases h2
      refine ⟨me, H0, F, δ, _, ex, x, h1, fun vs F1 H1 n1 r1 => ?_⟩
      obtain ⟨v, rfl, a⟩ := rpa1 r1
      cases a
      exact ⟨j, rfl, z.1, z.2, q _ F1 H1 n1 walk_rng⟩
    · cases h2
  · cases h2
theorem di_rng2 {a b : Expr} {p : Pos} {f : Dt → Option (List PyData)} (hg : Gl X "range") (hm : X.mg "range" = none) (ha : PA X [a, b] (tDA k ow f)) (hs : starEach [a, b] X.env = [(false, eval a X.env), (false, eval b X.env)] := by rfl) (hs2 : starEach [b] X.env = [(false, eval b X.env)] := by rfl) : PI X tg (.Call (.Name "range" p) [a, b] [] pos) (tI k ow (rng2 f)) :=
  pi_imp (pi_range2 hg hm ha hs hs2) fun σ H R ⟨me, H0, F, δ, ds, ex, x, hf, q⟩ => by
  obtain ⟨l, h1, h2⟩ := Option.bind_eq_some_iff.mp hf
  split at h2
  · rename_i i j
    split at h2
    · rename_i z
      cases h2
      refine ⟨me, H0, F, δ, _, ex, x, h1, fun vs F1 H1 n1 r1 => ?_⟩
      obtain ⟨v, u, rfl, a, b⟩ := rpa2 r1
      cases a
      cases b
      exact ⟨i, j, rfl, z, q _ F1 H1 n1 walk_rng⟩
    · cases h2
  · cases h2
def enumL (l : List PyData) : List PyData := l.mapIdx fun i d => .tuple [.int (i : Int), d]
def enumI (f : Dt → Option (List PyData)) : Dt → Option (List PyData) := fun δ => (f δ).bind fun l => match l with
  | [.list a] => some (enumL a)
  | _ => none
theorem walk_enum {K : PySem.W.Frag} {F : Hp} {a : Addr} {xs : List V} {ds : List PyData} (h : F a = some (.lst xs)) (r : RpA k F xs ds) : WalkD k F (fun _ => True) (enumL ds) (Ite K a) := fun i H F1 e1 e2 _ =>
  ⟨fun d hd => by
    unfold enumL at hd
    rw [List.getElem?_mapIdx] at hd
    obtain ⟨d0, hd0, rfl⟩ := Option.map_eq_some_iff.mp hd
    obtain ⟨v, h1, h2⟩ := r.getD hd0
    refine ⟨⟨xs, v, SqL.of (e2.e _ _ (e1 _ _ h)), h1⟩, fun x H' hy => ?_⟩
    obtain ⟨T, y, rfl, hT, rfl, hx⟩ := hy
    have z := hx xs (SqL.of (e2.e _ _ (e1 _ _ h)))
    rw [h1] at z
    cases z
    exact ⟨_, .new e2 hT, .tup upd_same (.cons (.int _) (.cons ((h2.mono e1).mono (Ext.new (e2.back hT))) .nil))⟩, fun hl => ⟨xs, SqL.of (e2.e _ _ (e1 _ _ h)), by
    unfold enumL at hl
    rw [List.length_mapIdx] at hl
    rw [r.length]
    exact hl⟩⟩
theorem di_enum {elts : List Expr} {kk : Nat} {tpos p : Pos} {f : Dt → Option (List PyData)} (hg : Gl X "enumerate") (hm : X.mg "enumerate" = none) (ha : PA X [e] (tDA k ow f)) (hs : starEach [e] X.env = [(false, eval e X.env)] := by rfl) : PI X (.Tuple elts kk tpos) (.Call (.Name "enumerate" p) [e] [] pos) (tI k ow (enumI f)) :=
  pi_imp (pi_enum hg hm ha hs) fun σ H R ⟨me, H0, F, δ, ds, ex, x, hf, q⟩ => by
  obtain ⟨l, h1, h2⟩ := Option.bind_eq_some_iff.mp hf
  split at h2
  · cases h2
    refine ⟨me, H0, F, δ, _, ex, x, h1, fun vs F1 H1 n1 r1 => ?_⟩
    obtain ⟨v, rfl, a⟩ := rpa1 r1
    cases a with
    | lst z r => exact ⟨_, _, rfl, SqL.of (n1.fh.e _ _ z), q _ F1 H1 n1 (walk_enum z r)⟩
  · cases h2
end
end Dl
set_option Elab.async false
set_option linter.all false
set_option maxRecDepth 100000
set_option maxHeartbeats 4000000
/-! Comprehensions, calls, statements, loops, defs. -/
namespace Dl
open PySem PySem.Spec PyProof.Rows L2

/-! ### slots forgotten -/
def wipeD (δ : Dt) : List Nat → Dt
  | [] => δ
  | v :: vs => (wipeD δ vs).set v none
theorem wipe_get {α : Type} (wp : List (Option α) → List Nat → List (Option α)) (h0 : ∀ σ, wp σ [] = σ) (h1 : ∀ σ v vs, wp σ (v :: vs) = (wp σ vs).set v none) (σ : List (Option α)) (i : Nat) : ∀ vs, (wp σ vs)[i]? = if i ∈ vs then (if i < σ.length then some none else none) else σ[i]? := by
  have hl : ∀ vs, (wp σ vs).length = σ.length := by
    intro vs
    induction vs with
    | nil => rw [h0]
    | cons v vs ih => rw [h1, List.length_set, ih]
  intro vs
  induction vs with
  | nil => rw [h0]; simp
  | cons v vs ih =>
    rw [h1]
    by_cases h : v = i
    · subst h
      rw [if_pos List.mem_cons_self]
      by_cases hv : v < σ.length
      · rw [List.getElem?_set_self (by rw [hl]; exact hv), if_pos hv]
      · rw [List.getElem?_eq_none (by rw [List.length_set, hl]; omega), if_neg hv]
    · rw [List.getElem?_set_ne h, ih]
      by_cases hm : i ∈ vs
      · rw [if_pos hm, if_pos (List.mem_cons_of_mem _ hm)]
      · rw [if_neg hm, if_neg (by simp only [List.mem_cons, not_or]; exact ⟨fun z => h z.symm, hm⟩)]
theorem wipeV_get (σ : L2.St) (i : Nat) (vs : List Nat) : (wipe σ vs)[i]? = if i ∈ vs then (if i < σ.length then some none else none) else σ[i]? := wipe_get wipe (fun _ => rfl) (fun _ _ _ => rfl) σ i vs
theorem wipeD_get (δ : Dt) (i : Nat) (vs : List Nat) : (wipeD δ vs)[i]? = if i ∈ vs then (if i < δ.length then some none else none) else δ[i]? := wipe_get wipeD (fun _ => rfl) (fun _ _ _ => rfl) δ i vs
theorem wipeD_length (δ : Dt) : ∀ vs, (wipeD δ vs).length = δ.length
  | [] => rfl
  | v :: vs => by unfold wipeD; rw [List.length_set, wipeD_length δ vs]
theorem wipe_same {a b : L2.St} {vs : List Nat} (hl : a.length = b.length) (h : ∀ j, j ∉ vs → a[j]? = b[j]?) : wipe a vs = wipe b vs := by
  refine List.ext_getElem? fun i => ?_
  rw [wipeV_get, wipeV_get, hl]
  by_cases z : i ∈ vs
  · rw [if_pos z, if_pos z]
  · rw [if_neg z, if_neg z, h i z]
section
variable {k : Cl} {ow : List Nat}
theorem Sl.wipe {me : Option Addr} {H0 F H : Hp} {σ : L2.St} {δ : Dt} (x : Sl k me H0 F H ow σ δ) (vs : List Nat) : Sl k me H0 F H ow (L2.wipe σ vs) (wipeD δ vs) := by
  have key : ∀ {i : Nat} {d : PyData}, (wipeD δ vs)[i]? = some (some d) → δ[i]? = some (some d) ∧ (L2.wipe σ vs)[i]? = σ[i]? := fun {i d} e => by
    rw [wipeD_get] at e
    rw [wipeV_get]
    by_cases z : i ∈ vs
    · rw [if_pos z] at e
      split at e <;> cases e
    · rw [if_neg z] at e ⊢
      exact ⟨e, rfl⟩
  refine ⟨by rw [wipe_length, wipeD_length]; exact x.len, fun i d hi e => ?_, fun i d hi e => ?_, fun i j a b hi hj n e1 e2 => ?_, x.tab⟩
  · obtain ⟨e1, e2⟩ := key e
    rw [e2]
    exact x.fz i d hi e1
  · obtain ⟨e1, e2⟩ := key e
    rw [e2]
    exact x.own i d hi e1
  · obtain ⟨a1, a2⟩ := key e1
    obtain ⟨b1, b2⟩ := key e2
    rw [a2, b2]
    exact x.ne i j a b hi hj n a1 b1
end

/-! ### comprehensions -/
def lcL (g : PyData → Dt → Option Dt) (tt : Dt → Option Bool) (te : Dt → Option PyData) (δ : Dt) : List PyData → Option (List PyData)
  | [] => some []
  | d :: r => (g d δ).bind fun δ1 => (tt δ1).bind fun c => if c = true then (te δ1).bind fun y => (lcL g tt te δ r).map (y :: ·) else lcL g tt te δ r
def lcD (vs : List Nat) (fi : Dt → Option (List PyData)) (g : PyData → Dt → Option Dt) (tt : Dt → Option Bool) (te : Dt → Option PyData) : Dt → Option PyData := fun δ => (fi δ).bind fun ds => if ds.length ≤ sizeLine then (lcL g tt te (wipeD δ vs) ds).map .list else none
section
variable {X : Cx} {k : Cl} {ow : List Nat}
theorem dts_nil : PTs X [] (tDT k ow fun _ => some true) := ⟨fun pins s σ H Q I ⟨me, H0, F, δ, b, ex, x, hf, q⟩ => pts_nil.run pins s σ H Q I (by
  cases hf
  exact q F H (.refl ex))⟩
theorem dts_one {c : Expr} {t : Dt → Option Bool} (h : PT X c (tDT k ow t)) : PTs X [c] (tDT k ow t) := pts_one h
theorem lc_run {g : PyData → Dt → Option Dt} {tt : Dt → Option Bool} {te : Dt → Option PyData} {vs js : List Nat} {me : Option Addr} {H0 F1 H1 : Hp} {σ : L2.St} {δ : Dt} {ds ys : List PyData} {J : It} {Qd : Hp → Prop} {D : Addr}
    (hjs : ∀ j ∈ js, j ∈ vs) (ex : FIn F1 H1) (x : Sl k me H0 F1 H1 ow σ δ) (w : WalkD k F1 (Gr k.T H1) ds J) (hD : H1 D = none) (hz : ds.length ≤ sizeLine) (hl : lcL g tt te (wipeD δ vs) ds = some ys)
    (q : ∀ xs F' H', Nx k.T F1 H1 F' H' → F' D = none → H' D = some (.lst xs) → RpA k F' xs ys → Qd H') :
    ∃ W : Nat → Nat → Hp → Prop, (∃ m, W 0 m (upd H1 D (.lst []))) ∧ ∀ i m H, W i m H →
      (J.stop i H ∧ Qd H) ∨ (J.go i H ∧ ∃ Nx : Hp → Prop, (∀ H', Nx H' → ∃ m', m' < m ∧ W (i + 1) m' H') ∧ ∀ x H', J.yld i H x H' → tG k ow js g x (L2.wipe σ vs) H' fun σ2 H2 => L2.wipe σ2 vs = L2.wipe σ vs ∧ tDT k ow tt σ2 H2 fun b H3 =>
        if b = true then tD k ow te σ2 H3 fun y H4 => ∃ acc, H4 D = some (.lst acc) ∧ acc.length < sizeLine ∧ Nx (upd H4 D (.lst (acc ++ [y]))) else Nx H3) := by
  let Pv : Nat → Hp → Prop := fun i H => ∃ F2 acc done rest, Nx k.T F1 H1 F2 H ∧ F2 D = none ∧ H D = some (.lst acc) ∧ RpA k F2 acc done ∧ acc.length ≤ i ∧ lcL g tt te (wipeD δ vs) (ds.drop i) = some rest ∧ done ++ rest = ys
  refine ⟨fun i m H => m = ds.length - i ∧ i ≤ ds.length ∧ Pv i H, ⟨ds.length, by simp, Nat.zero_le _, F1, [], [], ys, .newH ex hD, ex.back hD, upd_same, .nil, Nat.le_refl _, hl, rfl⟩, ?_⟩
  rintro i m H ⟨rfl, hi, F2, acc, done, rest, n2, fD, hHD, ra, la, hr, hy⟩
  obtain ⟨wg, ws⟩ := w i H F2 n2.f n2.fh n2.h
  by_cases hlt : i < ds.length
  · have hd : ds[i]? = some ds[i] := by simp [hlt]
    obtain ⟨go, step⟩ := wg _ hd
    refine .inr ⟨go, Pv (i + 1), fun H' p' => ⟨ds.length - (i + 1), by omega, rfl, hlt, p'⟩, fun x1 H' y => ?_⟩
    obtain ⟨F3, n3, r3⟩ := step x1 H' y
    have hdrop : ds.drop i = ds[i] :: ds.drop (i + 1) := List.drop_eq_getElem_cons hlt
    rw [hdrop] at hr
    obtain ⟨δ1, e1, e2⟩ := Option.bind_eq_some_iff.mp hr
    obtain ⟨c, e3, e4⟩ := Option.bind_eq_some_iff.mp e2
    have n13 := n2.trans n3
    have fD3 : F3 D = none := n3.fr D _ hHD fD
    have hD3 : H' D = some (.lst acc) := n3.h.g hHD
    refine ⟨me, H0, F3, wipeD δ vs, ds[i], δ1, n3.fh, (x.step n13).wipe vs, r3, e1, fun σ2 x2 l2 k2 => ⟨?_, me, H0, F3, δ1, c, n3.fh, x2, e3, fun F4 H4 n4 => ?_⟩⟩
    · have hw : L2.wipe σ2 vs = L2.wipe (L2.wipe σ vs) vs := wipe_same l2 fun j hj => k2 j fun z => hj (hjs j z)
      rw [hw]
      exact wipe_same (wipe_length ..) fun j hj => by rw [wipeV_get, if_neg hj]
    · have n14 := n13.trans n4
      have fD4 : F4 D = none := n4.fr D _ hD3 fD3
      have hD4 : H4 D = some (.lst acc) := n4.h.g hD3
      have ra4 := ra.mono (n3.f.trans n4.f)
      cases c with
      | true =>
        rw [if_pos rfl] at e4
        obtain ⟨y1, e5, e6⟩ := Option.bind_eq_some_iff.mp e4
        obtain ⟨rest', e7, e8⟩ := Option.map_eq_some_iff.mp e6
        subst e8
        refine ite2 (fun _ => ?_) fun z => absurd rfl z
        refine ⟨me, H0, F4, δ1, y1, n4.fh, x2.step n4, e5, fun v F5 H5 n5 r5 => ⟨acc, n5.h.g hD4, by omega, F5, acc ++ [v], done ++ [y1], rest', ?_, n5.fr D _ hD4 fD4, upd_same, (ra4.mono n5.f).snoc r5, by rw [List.length_append]; exact Nat.succ_le_succ la, e7, by rw [← hy]; simp⟩⟩
        have n15 := n14.trans n5
        exact ⟨n15.h.mut hD (pl_at (n5.h.g hD4) pl_lst), n15.f, n15.fh.mut (n5.fr D _ hD4 fD4), n15.fr⟩
      | false =>
        rw [if_neg Bool.false_ne_true] at e4
        exact ite2 (fun z => nomatch z) fun _ => ⟨F4, acc, done, rest, n14, fD4, hD4, ra4, by omega, e4, hy⟩
  · have e : i = ds.length := by omega
    subst e
    rw [List.drop_length] at hr
    cases hr
    rw [List.append_nil] at hy
    subst hy
    exact .inl ⟨ws (Nat.le_refl _), q acc F2 H n2 fD hHD ra⟩
theorem lc_tDN {fi : Dt → Option (List PyData)} {g : PyData → Dt → Option Dt} {tt : Dt → Option Bool} {te : Dt → Option PyData} {vs js : List Nat} (hjs : ∀ j ∈ js, j ∈ vs) : ∀ σ H Q, tDN k ow (lcD vs fi g tt te) σ H Q → tLc (tIw k ow fi) (tG k ow js g) (tDT k ow tt) (tD k ow te) vs σ H Q := fun σ H Q ⟨me, H0, F, δ, ys, ex, x, hf, q⟩ => by
  obtain ⟨ds, h1, h2⟩ := Option.bind_eq_some_iff.mp hf
  split at h2
  · rename_i hz
    obtain ⟨ys', h3, h4⟩ := Option.map_eq_some_iff.mp h2
    cases h4
    exact ⟨me, H0, F, δ, ds, ex, x, h1, fun J F1 H1 n1 w D hD => lc_run hjs n1.fh (x.step n1) w hD hz h3 fun xs F' H' n fD hHD r => q D xs F' H' (n1.trans n) (n1.h.back hD) fD hHD r⟩
  · cases h2
theorem dn_lc {elt tg iter : Expr} {ifs : List Expr} {scope : Scope} {own : List (Str × Nat)} {pos : Pos} {fi : Dt → Option (List PyData)} {g : PyData → Dt → Option Dt} {tt : Dt → Option Bool} {te : Dt → Option PyData} {js : List Nat} (hc : X.calm = true) (hN : X.N.Nodup) (hi : PI X tg iter (tIw k ow fi)) (ok : BlkOk X.N X.env.scope scope own)
    (hg : ∀ (s : Shared) (H : Hp) (C : Addr) (cl : List (Str × Addr)) (fp : List Addr), PG (X.blk s H scope (compEnvC scope cl C X.env) fp) tg (tG k ow js g)) (ht : ∀ (s : Shared) (H : Hp) (C : Addr) (cl : List (Str × Addr)) (fp : List Addr), PTs (X.blk s H scope (compEnvC scope cl C X.env) fp) ifs (tDT k ow tt))
    (he : ∀ (s : Shared) (H : Hp) (C : Addr) (cl : List (Str × Addr)) (fp : List Addr), PE (X.blk s H scope (compEnvC scope cl C X.env) fp) elt (tD k ow te)) (hjs : ∀ j ∈ js, j ∈ own.map (·.2) := by decide) (hs : ∀ x, foldedSetIterable iter X.env x = pure x := by intro _; rfl) :
    PE X (.ListComp elt [⟨tg, iter, ifs, 0⟩] scope pos) (tDN k ow (lcD (own.map (·.2)) fi g tt te)) := pe_imp (pe_lc hc hN hi ok hg ht he hs) (lc_tDN hjs)
theorem das_lc {i : Nat} {y : Str} {py : Pos} {elt tg iter : Expr} {ifs : List Expr} {scope : Scope} {own : List (Str × Nat)} {pos spos : Pos} {fi : Dt → Option (List PyData)} {g : PyData → Dt → Option Dt} {tt : Dt → Option Bool} {te : Dt → Option PyData} {js : List Nat} (hc : X.calm = true) (hN : X.N.Nodup) (hy : X.N[i]? = some y) (hyl : X.env.scope.names.lookup y = some .local)
    (hsw : swapsWith (.ListComp elt [⟨tg, iter, ifs, 0⟩] scope pos) (some (.Name y py)) spos.line X.env = pure true) (hi : PI X tg iter (tIw k ow fi)) (ok : BlkOk X.N X.env.scope scope own)
    (hg : ∀ (s : Shared) (H : Hp) (C : Addr) (cl : List (Str × Addr)) (fp : List Addr), PG (X.blk s H scope (compEnvC scope cl C X.env) fp) tg (tG k ow js g)) (ht : ∀ (s : Shared) (H : Hp) (C : Addr) (cl : List (Str × Addr)) (fp : List Addr), PTs (X.blk s H scope (compEnvC scope cl C X.env) fp) ifs (tDT k ow tt))
    (he : ∀ (s : Shared) (H : Hp) (C : Addr) (cl : List (Str × Addr)) (fp : List Addr), PE (X.blk s H scope (compEnvC scope cl C X.env) fp) elt (tD k ow te)) (hjs : ∀ j ∈ js, j ∈ own.map (·.2) := by decide) (hs : ∀ x, foldedSetIterable iter X.env x = pure x := by intro _; rfl) :
    PS X (.Assign [.Name y py] (.ListComp elt [⟨tg, iter, ifs, 0⟩] scope pos) spos) (tAsg (tDN k ow (lcD (own.map (·.2)) fi g tt te)) (gName i)) := ps_imp (ps_setLc hc hN hy hyl hsw hi ok hg ht he hs) fun D σ H h => lc_tDN hjs σ H _ h
end

/-! ### promises of pure defs -/
inductive Rs where
  | ok (d : PyData)
  | ex (c : Nat)
def okOf (f : List PyData → Option Rs) : List PyData → Option PyData := fun ds => match f ds with
  | some (.ok d) => some d
  | _ => none
theorem okOf_some {f : List PyData → Option Rs} {ds : List PyData} {d : PyData} (h : okOf f ds = some d) : f ds = some (.ok d) := by
  unfold okOf at h
  split at h
  · rename_i e z
    cases h
    exact z
  · cases h
/-- the dict of an exception stands -/
def XdD (dd : Option Addr) (H : Hp) : Prop := ∀ d, dd = some d → ∃ fs, H d = some (.xd fs)
def ExD (T : Tb) (dd : Option Addr) (H : Hp) : Prop := LamX.Tabs T H ∧ XdD dd H
def RsP (k : Cl) (F H : Hp) (Q : VK) (E : XK) : Rs → Prop
  | .ok d => ∀ v F' H', Nx k.T F H F' H' → Rp k F' v d → Q v H'
  | .ex c => ∀ F' H' dd, Nx k.T F H F' H' → ExD k.T dd H' → E (.ref (k.ec c)) dd H'
def spP (k : Cl) (n : Nat) (f : List PyData → Option Rs) : Sp := fun vs H Q E => ∃ F ds r, FIn F H ∧ LamX.Tabs k.T H ∧ RpA k F vs ds ∧ ds.length = n ∧ f ds = some r ∧ RsP k F H Q E r
theorem spP_len {k : Cl} {n : Nat} {f : List PyData → Option Rs} {vs : List V} {H : Hp} {Q : VK} {E : XK} (h : spP k n f vs H Q E) : vs.length = n := by
  obtain ⟨F, ds, r, _, _, a, b, _⟩ := h
  rw [a.length, b]
section
variable {X : Cx} {k : Cl} {ow : List Nat} {lv n : Nat} {f : Addr} {fd : FuncData} {ps ks : List Str} {g : List PyData → Option Rs} {x : Str} {p pos : Pos} {e : Expr} {es : List Expr} {kws : List Keyword}
def gN (n : Nat) (g : List PyData → Option Rs) : List PyData → Option PyData := fun ds => if ds.length = n then okOf g ds else none
theorem d_call (G : FnOk X.prog X.w X.K X.mg X.base (L2.CX X.prog X.w) lv f fd ps (spP k n g)) (hr : Room lv X.A) (hg : Gl X x) (hm : X.mg x = some (.ref f)) (hk : PySem.W.keepIn X.K (.ref f) = true) (hb : Binds X.K fd ps []) {fa : Dt → Option (List PyData)} (ha : PA X (e :: es) (tDA k ow fa))
    (hdb : (x == ("__debug__" : Str)) = false := by decide) (he : starEach (e :: es) X.env = (false, eval e X.env) :: starEach es X.env := by rfl) (hpl : (backTo pos (starEach es X.env)).any (·.1) = false := by rfl) :
    PE X (.Call (.Name x p) (e :: es) [] pos) (tD k ow (bA (gN n g) fa)) :=
  pe_imp (pe_call G hr hg hm hk hb .nil passL ha hdb he hpl) fun σ H Q ⟨me, H0, F, δ, d, ex, x, hf, q⟩ => by
  obtain ⟨ds, h1, h2⟩ := Option.bind_eq_some_iff.mp hf
  unfold gN at h2
  split at h2
  · rename_i hl
    exact ⟨me, H0, F, δ, ds, ex, x, h1, fun vs F1 H1 n1 r1 => by
      show spP k n g (vs ++ []) H1 Q E0
      rw [List.append_nil]
      exact ⟨F1, ds, .ok d, n1.fh, n1.h.ts x.tab, r1, hl, okOf_some h2, fun v F' H' n r => q v F' H' (n1.trans n) r⟩⟩
  · cases h2
theorem dk_nil : PK X [] (tDA k ow aNil) := ⟨fun pos pins s σ H Q I ⟨me, H0, F, δ, ds, ex, x, hf, q⟩ => pk_nil.run pos pins s σ H Q I (by
  cases hf
  exact q [] F H (.refl ex) .nil)⟩
theorem dk_cons {nm : Option Str} {kpos : Pos} {fa : Dt → Option PyData} {fr : Dt → Option (List PyData)} (ha : PE X e (tD k ow fa)) (hr : PK X kws (tDA k ow fr)) : PK X (⟨nm, e, kpos⟩ :: kws) (tDA k ow (aCons fa fr)) :=
  ⟨fun pos pins s σ H Q I ⟨me, H0, F, δ, ds, ex, x, hf, q⟩ => (pk_cons ha hr).run pos pins s σ H Q I (by
    obtain ⟨d, h1, h2⟩ := Option.bind_eq_some_iff.mp hf
    obtain ⟨r, h3, h4⟩ := Option.map_eq_some_iff.mp h2
    subst h4
    exact ⟨me, H0, F, δ, d, ex, x, h1, fun v F1 H1 n1 r1 => ⟨me, H0, F1, δ, r, n1.fh, x.step n1, h3, fun vs F2 H2 n2 r2 => q _ F2 H2 (n1.trans n2) (.cons (r1.mono n2.f) r2)⟩⟩)⟩
def gA {α : Type} (n m : Nat) (us ws : List α) : List α := if us.length = n ∧ ws.length = m then us ++ ws else []
theorem gA_rel {n m : Nat} {vs : List V} {us : List Value} {zs : List V} {ws : List Value} (r : Vals vs us) (rz : Vals zs ws) : Vals (gA n m vs zs) (gA n m us ws) := by
  unfold gA
  rw [r.length, rz.length]
  split
  · exact r.append rz
  · exact .nil
theorem gA_eq {α : Type} {n m : Nat} {us ws : List α} (h1 : us.length = n) (h2 : ws.length = m) : gA n m us ws = us ++ ws := if_pos ⟨h1, h2⟩
abbrev KB (K : PySem.W.Frag) (fd : FuncData) (ps ks : List Str) (n m : Nat) : Prop := KBinds K fd ps ks (fun us ws => gA n m us ws) (fun vs zs => gA n m vs zs)
/-- how all are bound, n positional ones and the keyword-only ones -/
theorem kb_of {K : PySem.W.Frag} {x qual : Str} {params : Arguments} {body : List Stmt} {scope : Scope} {kws : List (Str × V)} {f : Addr} {fd : FuncData} {ps ks : List Str} (F : FunD K x qual params body scope [] kws f fd) (n m : Nat) (hp : 0 < ps.length)
    (h : ∀ (kV doc pm : Value) (an : Option Addr) (cdv ct : Value) (us ws : List Value), us.length = n → ws.length = m → bindArgs (PySem.W.fnOf x qual params body scope .none kV doc pm an cdv ct) ⟨us, ks.zip ws⟩ = pure (ps.zip (us ++ ws))) : KB K fd ps ks n m := by
  obtain ⟨oc, od, dV, kV, doc, pm, an, cdv, ct, osl, rfl, lk, hcd, hD, hK⟩ := F.ex
  obtain rfl : dV = .none := by
    rcases hD with ⟨_, e⟩ | ⟨e, _⟩
    · exact e
    · exact absurd rfl e
  refine ⟨fun s us ws X hl => ?_, fun r rz => gA_rel r rz⟩
  by_cases h1 : us.length = n ∧ ws.length = m
  · rw [gA_eq h1.1 h1.2]
    exact .of_eq (h kV doc pm an cdv ct us ws h1.1 h1.2)
  · have e : gA n m us ws = [] := if_neg h1
    rw [e] at hl
    rw [← hl] at hp
    exact absurd hp (by simp)
def aCat (n m : Nat) (f g : Dt → Option (List PyData)) : Dt → Option (List PyData) := fun δ => (f δ).bind fun a => (g δ).bind fun b => if a.length = n ∧ b.length = m then some (a ++ b) else none
theorem aCat_some {n m : Nat} {f g : Dt → Option (List PyData)} {δ : Dt} {l : List PyData} (h : aCat n m f g δ = some l) : ∃ a b, f δ = some a ∧ g δ = some b ∧ a.length = n ∧ b.length = m ∧ l = a ++ b := by
  obtain ⟨a, h3, h4⟩ := Option.bind_eq_some_iff.mp h
  obtain ⟨b, h5, h6⟩ := Option.bind_eq_some_iff.mp h4
  split at h6
  · rename_i z
    cases h6
    exact ⟨a, b, h3, h5, z.1, z.2, rfl⟩
  · cases h6
/-- f(.., k = v, ..): all keyword-only parameters written, in their order -/
theorem d_callK (G : FnOk X.prog X.w X.K X.mg X.base (L2.CX X.prog X.w) lv f fd ps (spP k n g)) (hr : Room lv X.A) (hg : Gl X x) (hm : X.mg x = some (.ref f)) (hk : PySem.W.keepIn X.K (.ref f) = true) {na nb : Nat} (hb : KB X.K fd ps ks na nb) {fa fk : Dt → Option (List PyData)} (ha : PA X (e :: es) (tDA k ow fa)) (hkw : PK X kws (tDA k ow fk))
    (hall : (backToKw pos (keywordEach kws X.env)).all (·.1.isSome) = true := by rfl) (hks : (backToKw pos (keywordEach kws X.env)).filterMap (·.1) = ks := by rfl)
    (hdb : (x == ("__debug__" : Str)) = false := by decide) (he : starEach (e :: es) X.env = (false, eval e X.env) :: starEach es X.env := by rfl)
    (hpl : ((backTo pos (starEach (e :: es) X.env)).any (·.1) || (backToKw pos (keywordEach kws X.env)).any (·.1.isNone)) = false := by rfl) :
    PE X (.Call (.Name x p) (e :: es) kws pos) (tD k ow (bA (gN n g) (aCat na nb fa fk))) :=
  pe_imp (pe_callK (E := E0) G hr hg hm hk hb passL ha hkw hall hks hdb he hpl) fun σ H Q ⟨me, H0, F, δ, d, ex, x, hf, q⟩ => by
  obtain ⟨ds, h1, h2⟩ := Option.bind_eq_some_iff.mp hf
  obtain ⟨a, b, h3, h5, la, lb, rfl⟩ := aCat_some h1
  unfold gN at h2
  split at h2
  · rename_i hl
    exact ⟨me, H0, F, δ, a, ex, x, h3, fun vs F1 H1 n1 r1 => ⟨me, H0, F1, δ, b, n1.fh, x.step n1, h5, fun zs F2 H2 n2 r2 => by
      show spP k n g (gA na nb vs zs) H2 Q E0
      rw [gA_eq (r1.length.trans la) (r2.length.trans lb)]
      exact ⟨F2, a ++ b, .ok d, n2.fh, (n1.trans n2).h.ts x.tab, (r1.mono n2.f).append r2, hl, okOf_some h2, fun v F' H' n r => q v F' H' ((n1.trans n2).trans n) r⟩⟩⟩
  · cases h2
end
end Dl
set_option Elab.async false
set_option linter.all false
set_option maxRecDepth 100000
set_option maxHeartbeats 4000000
/-! Statements, loops, what changes. -/
namespace Dl
open PySem PySem.Spec PyProof.Rows L2

structure Fc where
  k : Cl
  me : Option Addr
  F0 : Hp
  H0 : Hp
  ow : List Nat
  E : XK
/-- from the entry (F0, H0) to here; me may have changed -/
structure Bx (T : Tb) (me : Option Addr) (F0 H0 F H : Hp) : Prop where
  h : ∀ a o, H0 a = some o → me ≠ some a → NT o → H a = some o
  tb : ∀ a ps, H0 a = some (.tbl ps) → me ≠ some a → ∃ ps', H a = some (.tbl ps')
  ts : LamX.Tabs T H0 → LamX.Tabs T H
  f : Ext F0 F
  fh : FIn F H
  fr : ∀ a o, H0 a = some o → F0 a = none → F a = none
  mt : ∀ a, me = some a → ∃ o, H a = some o
theorem Bx.there {T : Tb} {me : Option Addr} {F0 H0 F H : Hp} (b : Bx T me F0 H0 F H) {a : Addr} {o : HO} (e : H0 a = some o) : ∃ o', H a = some o' := by
  by_cases hm : me = some a
  · exact b.mt a hm
  · rcases nt_or o with h | ⟨ps, rfl⟩
    · exact ⟨o, b.h a o e hm h⟩
    · obtain ⟨ps', z⟩ := b.tb a ps e hm
      exact ⟨_, z⟩
theorem Bx.step {T : Tb} {me : Option Addr} {F0 H0 F H F' H' : Hp} (b : Bx T me F0 H0 F H) (n : Nx T F H F' H') : Bx T me F0 H0 F' H' :=
  ⟨fun a o e ne nt => n.h.h a o (b.h a o e ne nt) nt, fun a ps e ne => let ⟨ps', z⟩ := b.tb a ps e ne; n.h.tb a ps' z, fun t => n.h.ts (b.ts t), b.f.trans n.f, n.fh, fun a o e f0 => let ⟨o', z⟩ := b.there e; n.fr a o' z (b.fr a o e f0), fun a e => let ⟨o, z⟩ := b.mt a e; n.h.there z⟩
theorem Bx.nx {T : Tb} {F0 H0 F H : Hp} (b : Bx T none F0 H0 F H) : Nx T F0 H0 F H := ⟨⟨fun a o e nt => b.h a o e (by simp) nt, fun a ps e => b.tb a ps e (by simp), b.ts⟩, b.f, b.fh, b.fr⟩
theorem Bx.refl {T : Tb} {me : Option Addr} {F H : Hp} (e : FIn F H) (m : ∀ a, me = some a → ∃ o, H a = some o) : Bx T me F H F H := ⟨fun _ _ h _ _ => h, fun _ ps h _ => ⟨ps, h⟩, id, Ext.refl _, e, fun _ _ _ h => h, m⟩
/-- nothing of the entry's stands where nothing stands now -/
theorem Bx.new {T : Tb} {me : Option Addr} {F0 H0 F H : Hp} (b : Bx T me F0 H0 F H) {p : Addr} (h : H p = none) : H0 p = none := by
  cases e : H0 p with
  | none => rfl
  | some o =>
    obtain ⟨o', z⟩ := b.there e
    rw [h] at z; cases z

inductive Out where
  | nx (δ : Dt)
  | rt (d : PyData) (δ : Dt)
  | bk (δ : Dt)
  | ct (δ : Dt)
  | ex (c : Nat) (δ : Dt)
/-- slot 0 is me -/
def Sf (fc : Fc) (σ : L2.St) : Prop := ∀ p, fc.me = some p → 0 ∈ fc.ow ∧ σ[0]? = some (some (.ref p))
/-- what is known of me behind the def -/
def Mk (fc : Fc) (F H : Hp) (δ : Dt) : Prop := ∀ p d, fc.me = some p → δ[0]? = some (some d) → Own fc.k F H p d
abbrev Fc.B (fc : Fc) (F H : Hp) : Prop := Bx fc.k.T fc.me fc.F0 fc.H0 F H
abbrev Fc.S (fc : Fc) (F H : Hp) (σ : L2.St) (δ : Dt) : Prop := Sl fc.k fc.me fc.H0 F H fc.ow σ δ
def Post (fc : Fc) (D : Ends) (F0 : Hp) : Out → Prop
  | .nx δ => ∀ σ F H, fc.B F H → Ext F0 F → fc.S F H σ δ → Sf fc σ → D.nx σ H
  | .bk δ => ∀ σ F H, fc.B F H → Ext F0 F → fc.S F H σ δ → Sf fc σ → D.bk σ H
  | .ct δ => ∀ σ F H, fc.B F H → Ext F0 F → fc.S F H σ δ → Sf fc σ → D.ct σ H
  | .rt d δ => ∀ v F H, fc.B F H → Mk fc F H δ → Rp fc.k F v d → D.rt v H
  | .ex c δ => ∀ F H dd, fc.B F H → Mk fc F H δ → ExD fc.k.T dd H → fc.E (.ref (fc.k.ec c)) dd H
theorem Post.mono {fc : Fc} {D : Ends} {F F' : Hp} (e : Ext F F') : ∀ {o : Out}, Post fc D F o → Post fc D F' o
  | .nx _, q => fun σ G H b z => q σ G H b (e.trans z)
  | .bk _, q => fun σ G H b z => q σ G H b (e.trans z)
  | .ct _, q => fun σ G H b z => q σ G H b (e.trans z)
  | .rt _ _, q => q
  | .ex _ _, q => q
def tS (fc : Fc) (f : Dt → Option Out) : TS := fun D σ H => ∃ F δ o, fc.B F H ∧ fc.S F H σ δ ∧ Sf fc σ ∧ f δ = some o ∧ Post fc D F o
theorem Mk.of {fc : Fc} {F H : Hp} {σ : L2.St} {δ : Dt} (x : fc.S F H σ δ) (s : Sf fc σ) : Mk fc F H δ := fun p d hm e => by
  obtain ⟨h0, h1⟩ := s p hm
  obtain ⟨l, e1, _, e2⟩ := x.own 0 d h0 e
  rw [h1] at e1
  cases e1
  exact e2
theorem Sf.set {fc : Fc} {σ : L2.St} {i : Nat} {v : Option V} (s : Sf fc σ) (hi : i ∉ fc.ow) : Sf fc (σ.set i v) := fun p hm => by
  obtain ⟨h0, h1⟩ := s p hm
  exact ⟨h0, by rw [List.getElem?_set_ne (fun z => hi (by rw [z]; exact h0))]; exact h1⟩
theorem Sf.keep {fc : Fc} {σ σ' : L2.St} {js : List Nat} (s : Sf fc σ) (hjs : ∀ j ∈ js, j ∉ fc.ow) (h : ∀ j, j ∉ js → σ'[j]? = σ[j]?) : Sf fc σ' := fun p hm => by
  obtain ⟨h0, h1⟩ := s p hm
  exact ⟨h0, by rw [h 0 fun z => hjs 0 z h0]; exact h1⟩
section
variable {X : Cx} {fc : Fc} {e : Expr} {st : Stmt} {rest : List Stmt} {pos : Pos} {f g : Dt → Option Out} {fa fb : Dt → Option PyData}
/-! ### names stored -/
def stSet (i : Nat) (f : Dt → Option PyData) : Dt → Option Out := fun δ => (f δ).map fun d => .nx (δ.set i (some d))
theorem ds_set {i : Nat} (h : PS X st (tAsg (tD fc.k fc.ow fa) (gName i))) (hi : i ∉ fc.ow := by decide) : PS X st (tS fc (stSet i fa)) := ps_imp h fun D σ H ⟨F, δ, o, b, x, s, hf, q⟩ => by
  obtain ⟨d, h1, rfl⟩ := Option.map_eq_some_iff.mp hf
  exact ⟨fc.me, fc.H0, F, δ, d, b.fh, x, h1, fun v F' H' n r => q _ F' H' (b.step n) n.f ((x.step n).setF hi r) (s.set hi)⟩
theorem Sl.setN {k : Cl} {me : Option Addr} {H0 F H F' H' : Hp} {ow : List Nat} {σ : L2.St} {δ : Dt} {i : Nat} {l : Addr} {xs : List V} {ds : List PyData} (x : Sl k me H0 F H ow σ δ) (n : Nx k.T F H F' H') (hi : i ∈ ow) (h0 : H0 l = none) (hl : H l = none) (hF : F' l = none) (hH : H' l = some (.lst xs)) (r : RpA k F' xs ds) :
    Sl k me H0 F' H' ow (σ.set i (some (.ref l))) (δ.set i (some (.list ds))) := by
  have y := x.step n
  have key : ∀ {j : Nat} {u : PyData}, j ≠ i → (δ.set i (some (.list ds)))[j]? = some (some u) → δ[j]? = some (some u) ∧ (σ.set i (some (.ref l)))[j]? = σ[j]? := fun {j u} h e => by
    rw [List.getElem?_set_ne h.symm] at e ⊢
    exact ⟨e, rfl⟩
  have at_ : ∀ {u : PyData}, (δ.set i (some (.list ds)))[i]? = some (some u) → u = .list ds ∧ (σ.set i (some (V.ref l)))[i]? = some (some (.ref l)) := fun {u} e => by
    by_cases hl : i < δ.length
    · rw [List.getElem?_set_self hl] at e
      cases e
      exact ⟨rfl, List.getElem?_set_self (by rw [x.len]; exact hl)⟩
    · rw [List.getElem?_eq_none (by rw [List.length_set]; omega)] at e
      cases e
  have far : ∀ {j : Nat} {u : PyData}, j ∈ ow → δ[j]? = some (some u) → σ[j]? ≠ some (some (.ref l)) := fun {j u} hj e z => by
    obtain ⟨l', e1, _, e2⟩ := x.own j u hj e
    rw [z] at e1
    cases e1
    obtain ⟨o, e3⟩ := e2.there
    rw [hl] at e3
    cases e3
  refine ⟨by rw [List.length_set, List.length_set]; exact x.len, fun j u hj e => ?_, fun j u hj e => ?_, fun j m a b hj hm ne e1 e2 => ?_, y.tab⟩
  · have h : j ≠ i := fun z => hj (z ▸ hi)
    obtain ⟨k1, k2⟩ := key h e
    rw [k2]
    exact y.fz j u hj k1
  · by_cases h : j = i
    · subst h
      obtain ⟨rfl, k2⟩ := at_ e
      exact ⟨l, k2, .inl h0, hF, .inl ⟨xs, ds, hH, r, rfl⟩⟩
    · obtain ⟨k1, k2⟩ := key h e
      rw [k2]
      exact y.own j u hj k1
  · by_cases h : j = i
    · subst h
      obtain ⟨_, k2⟩ := at_ e1
      obtain ⟨m1, m2⟩ := key (Ne.symm ne) e2
      rw [k2, m2]
      exact (far hm m1).symm
    · obtain ⟨k1, k2⟩ := key h e1
      by_cases h2 : m = i
      · subst h2
        obtain ⟨_, m2⟩ := at_ e2
        rw [k2, m2]
        exact far hj k1
      · obtain ⟨m1, m2⟩ := key h2 e2
        rw [k2, m2]
        exact x.ne j m a b hj hm ne k1 m1
theorem Sf.setN {fc : Fc} {σ : L2.St} {i : Nat} {v : Option V} (s : Sf fc σ) (hi : i ≠ 0 ∨ fc.me = none) : Sf fc (σ.set i v) := fun p hm => by
  obtain ⟨h0, h1⟩ := s p hm
  rcases hi with hi | hi
  · exact ⟨h0, by rw [List.getElem?_set_ne hi]; exact h1⟩
  · rw [hi] at hm; cases hm
/-- a new list in a slot of ow -/
theorem ds_setN {i : Nat} (h : PS X st (tAsg (tDN fc.k fc.ow fa) (gName i))) (hi : i ∈ fc.ow := by decide) (h0 : i ≠ 0 ∨ fc.me = none := by first | exact .inl (by decide) | exact .inr rfl) : PS X st (tS fc (stSet i (asL fa))) := ps_imp h fun D σ H ⟨F, δ, o, b, x, s, hf, q⟩ => by
  obtain ⟨d, h1, rfl⟩ := Option.map_eq_some_iff.mp hf
  obtain ⟨ds, rfl, h2⟩ := asL_some h1
  exact ⟨fc.me, fc.H0, F, δ, ds, b.fh, x, h2, fun l xs F' H' n hl hF hH r => q _ F' H' (b.step n) n.f (x.setN n hi (b.new hl) hl hF hH r) (s.setN h0)⟩
/-- targets -/
def stG (f : Dt → Option PyData) (h : PyData → Dt → Option Dt) : Dt → Option Out := fun δ => (f δ).bind fun d => (h d δ).map .nx
theorem ds_G {js : List Nat} {h : PyData → Dt → Option Dt} (hp : PS X st (tAsg (tD fc.k fc.ow fa) (tG fc.k fc.ow js h))) (hjs : ∀ j ∈ js, j ∉ fc.ow := by decide) : PS X st (tS fc (stG fa h)) := ps_imp hp fun D σ H ⟨F, δ, o, b, x, s, hf, q⟩ => by
  obtain ⟨d, h1, h2⟩ := Option.bind_eq_some_iff.mp hf
  obtain ⟨δ', h3, rfl⟩ := Option.map_eq_some_iff.mp h2
  exact ⟨fc.me, fc.H0, F, δ, d, b.fh, x, h1, fun v F' H' n r => ⟨fc.me, fc.H0, F', δ, d, δ', n.fh, x.step n, r, h3, fun σ' x' _ kk => q σ' F' H' (b.step n) n.f x' (s.keep hjs kk)⟩⟩
/-- two names at once -/
def stPar (i j : Nat) (fa : Dt → Option (List PyData)) : Dt → Option Out := fun δ => (fa δ).bind fun l => match l with
  | [a, b] => some (.nx ((δ.set i (some a)).set j (some b)))
  | _ => none
theorem ds_par {i j : Nat} {fl : Dt → Option (List PyData)} (h : PS X st (tPar i j (tDA fc.k fc.ow fl))) (hi : i ∉ fc.ow := by decide) (hj : j ∉ fc.ow := by decide) : PS X st (tS fc (stPar i j fl)) := ps_imp h fun D σ H ⟨F, δ, o, b, x, s, hf, q⟩ => by
  obtain ⟨l, h1, h2⟩ := Option.bind_eq_some_iff.mp hf
  split at h2
  · cases h2
    refine ⟨fc.me, fc.H0, F, δ, _, b.fh, x, h1, fun vs F' H' n r => ?_⟩
    obtain ⟨v, u, rfl, r1, r2⟩ := rpa2 r
    exact ⟨v, u, rfl, q _ F' H' (b.step n) n.f (((x.step n).setF hi r1).setF hj r2) ((s.set hi).set hj)⟩
  · cases h2
/-- the first a new list in a slot of ow -/
def stParN (i j : Nat) (fa fb : Dt → Option PyData) : Dt → Option Out := fun δ => (asL fa δ).bind fun a => (fb δ).map fun b => .nx ((δ.set i (some a)).set j (some b))
theorem ds_parN {i j : Nat} (h : PS X st (tPar i j (tCons (tDN fc.k fc.ow fa) (tCons (tD fc.k fc.ow fb) tNil)))) (hi : i ∈ fc.ow := by decide) (hj : j ∉ fc.ow := by decide) (hm : i ≠ 0 ∨ fc.me = none := by first | exact .inl (by decide) | exact .inr rfl) : PS X st (tS fc (stParN i j fa fb)) := ps_imp h fun D σ H ⟨F, δ, o, b, x, s, hf, q⟩ => by
  obtain ⟨a, h1, h2⟩ := Option.bind_eq_some_iff.mp hf
  obtain ⟨c, h3, rfl⟩ := Option.map_eq_some_iff.mp h2
  obtain ⟨ds, rfl, h4⟩ := asL_some h1
  refine ⟨fc.me, fc.H0, F, δ, ds, b.fh, x, h4, fun l xs F1 H1 n1 hl hF hH r => ⟨fc.me, fc.H0, F1, δ, c, n1.fh, x.step n1, h3, fun v F2 H2 n2 r2 => ⟨_, _, rfl, ?_⟩⟩⟩
  have n := n1.trans n2
  exact q _ F2 H2 (b.step n) n.f ((x.setN n hi (b.new hl) hl (n2.fr l _ hH hF) (n2.h.g hH) (r.mono n2.f)).setF hj r2) ((s.setN hm).set hj)
/-- a new list, told as frozen at once -/
theorem das_ofN {i : Nat} {k : Cl} {ow : List Nat} (h : PS X st (tAsg (tDN k ow fa) (gName i))) : PS X st (tAsg (tD k ow (asL fa)) (gName i)) := ps_imp h fun D σ H ⟨me, H0, F, δ, d, e, x, hf, q⟩ => by
  obtain ⟨ds, rfl, hd⟩ := asL_some hf
  refine ⟨me, H0, F, δ, ds, e, x, hd, fun l xs F' H' n hl hF hH r => q _ (upd F' l (.lst xs)) H' ⟨n.h, n.f.trans (Ext.new hF), n.fh.add hH, fun a o z w => ?_⟩ (.lst upd_same (r.mono (Ext.new hF)))⟩
  rw [upd_ne (ne_of_none z hl)]; exact n.fr a o z w
/-! ### += -/
def stAug (i : Nat) (op : Int → Int → Int) (f : Dt → Option PyData) : Dt → Option Out := fun δ => match (δ[i]?).join, f δ with
  | some (.int a), some (.int b) => some (.nx (δ.set i (some (.int (op a b)))))
  | _, _ => none
theorem ds_aug {i : Nat} {op : Int → Int → Int} (h : PS X st (tAug i (tD fc.k fc.ow fa) (ipI op))) (hi : i ∉ fc.ow := by decide) : PS X st (tS fc (stAug i op fa)) := ps_imp h fun D σ H ⟨F, δ, o, b, x, s, hf, q⟩ => by
  unfold stAug at hf
  split at hf
  · rename_i a c h1 h2
    cases hf
    obtain ⟨v, e1, r⟩ := x.fz i _ hi (vr_some h1)
    cases r
    refine ⟨_, e1, fc.me, fc.H0, F, δ, _, b.fh, x, h2, fun v F' H' n r => ?_⟩
    cases r
    exact ⟨_, _, rfl, rfl, q _ F' H' (b.step n) n.f ((x.step n).setF hi (.int _)) (s.set hi)⟩
  · cases hf
/-! ### flow -/
def stRet (f : Dt → Option PyData) : Dt → Option Out := fun δ => (f δ).map fun d => .rt d δ
theorem ds_ret (h : PE X e (tD fc.k fc.ow fa)) : PS X (.Return (some e) pos) (tS fc (stRet fa)) := ps_imp (ps_ret h) fun D σ H ⟨F, δ, o, b, x, s, hf, q⟩ => by
  obtain ⟨d, h1, rfl⟩ := Option.map_eq_some_iff.mp hf
  exact ⟨fc.me, fc.H0, F, δ, d, b.fh, x, h1, fun v F' H' n r => q v F' H' (b.step n) (.of (x.step n) s) r⟩
/-- what was changing is frozen at the return -/
theorem ds_retZ (hm : fc.me = none) (h : PE X e (tD fc.k [] fa)) : PS X (.Return (some e) pos) (tS fc (stRet fa)) := ps_imp (ps_ret h) fun D σ H ⟨F, δ, o, b, x, s, hf, q⟩ => by
  obtain ⟨d, h1, rfl⟩ := Option.map_eq_some_iff.mp hf
  obtain ⟨z1, z2⟩ := fz_ext b.fh x
  have b' : fc.B (fzH F H (OwnA fc.ow σ δ)) H := ⟨b.h, b.tb, b.ts, b.f.trans z1, z2, fun a o e n => by
    have no : ¬ OwnA fc.ow σ δ a := fun ⟨i, u, i1, i2, i3⟩ => by
      obtain ⟨l, e1, e2, _⟩ := x.own i u i1 i2
      rw [i3] at e1
      cases e1
      rcases e2 with e2 | ⟨_, e2⟩
      · rw [e] at e2; cases e2
      · rw [hm] at e2; cases e2
    rw [fzH_no no]
    exact b.fr a o e n, b.mt⟩
  exact ⟨fc.me, fc.H0, _, δ, d, z2, x.frz b.fh, h1, fun v F' H' n r => q v F' H' (b'.step n) (fun p u e => by rw [hm] at e; cases e) r⟩
def stRetN : Dt → Option Out := fun δ => some (.rt .none δ)
theorem ds_retN : PS X (.Return none pos) (tS fc stRetN) := ps_imp ps_retN fun D σ H ⟨F, δ, o, b, x, s, hf, q⟩ => by
  cases hf
  exact q _ F H b (.of x s) .non
def stNx : Dt → Option Out := fun δ => some (.nx δ)
def sq (f g : Dt → Option Out) : Dt → Option Out := fun δ => (f δ).bind fun o => match o with
  | .nx δ' => g δ'
  | o => some o
theorem dss_nil : PSs X [] (tS fc stNx) := pss_imp pss_nil fun D σ H ⟨F, δ, o, b, x, s, hf, q⟩ => by
  cases hf
  exact q σ F H b (Ext.refl _) x s
theorem dss_one (h : PS X st (tS fc f)) : PSs X [st] (tS fc f) := pss_one h
theorem dss_cons (h : PS X st (tS fc f)) (hr : PSs X rest (tS fc g)) : PSs X (st :: rest) (tS fc (sq f g)) := pss_imp (pss_cons h hr) fun D σ H ⟨F, δ, o, b, x, s, hf, q⟩ => by
  obtain ⟨o1, h1, h2⟩ := Option.bind_eq_some_iff.mp hf
  refine ⟨F, δ, o1, b, x, s, h1, ?_⟩
  cases o1 with
  | nx δ1 => exact fun σ1 F1 H1 b1 e1 x1 s1 => ⟨F1, δ1, o, b1, x1, s1, h2, q.mono e1⟩
  | rt d δ1 => cases h2; exact q
  | bk δ1 => cases h2; exact q
  | ct δ1 => cases h2; exact q
  | ex c δ1 => cases h2; exact q
def stIf (c : Dt → Option Bool) (f g : Dt → Option Out) : Dt → Option Out := fun δ => (c δ).bind fun z => if z = true then f δ else g δ
theorem ds_if {c : Expr} {p q : List Stmt} {ft : Dt → Option Bool} (hc : PT X c (tDT fc.k fc.ow ft)) (hp : PSs X p (tS fc f)) (hq : PSs X q (tS fc g)) : PS X (.If c p q pos) (tS fc (stIf ft f g)) := ps_imp (ps_if hc hp hq) fun D σ H ⟨F, δ, o, b, x, s, hf, q⟩ => by
  obtain ⟨z, h1, h2⟩ := Option.bind_eq_some_iff.mp hf
  refine ⟨fc.me, fc.H0, F, δ, z, b.fh, x, h1, fun F' H' n => ?_⟩
  cases z with
  | true => exact ite2 (fun _ => ⟨F', δ, o, b.step n, x.step n, s, h2, q.mono n.f⟩) fun z => absurd rfl z
  | false => exact ite2 (fun z => nomatch z) fun _ => ⟨F', δ, o, b.step n, x.step n, s, h2, q.mono n.f⟩
def stBk : Dt → Option Out := fun δ => some (.bk δ)
theorem ds_break : PS X (.Break pos) (tS fc stBk) := ps_imp ps_break fun D σ H ⟨F, δ, o, b, x, s, hf, q⟩ => by
  cases hf
  exact q σ F H b (Ext.refl _) x s
theorem ds_pass : PS X (.Pass pos) (tS fc stNx) := ps_imp ps_pass fun D σ H ⟨F, δ, o, b, x, s, hf, q⟩ => by
  cases hf
  exact q σ F H b (Ext.refl _) x s
/-! ### loops -/
def forL (h : PyData → Dt → Option Dt) (fb : Dt → Option Out) : List PyData → Dt → Option Out
  | [], δ => some (.nx δ)
  | d :: r, δ => (h d δ).bind fun δ1 => (fb δ1).bind fun o => match o with
    | .nx δ2 => forL h fb r δ2
    | .ct δ2 => forL h fb r δ2
    | .bk δ2 => some (.nx δ2)
    | o => some o
def stFor (fi : Dt → Option (List PyData)) (h : PyData → Dt → Option Dt) (fb : Dt → Option Out) : Dt → Option Out := fun δ => (fi δ).bind fun ds => forL h fb ds δ
theorem ds_for {tg iter : Expr} {body : List Stmt} {js : List Nat} {fi : Dt → Option (List PyData)} {h : PyData → Dt → Option Dt} (hp : PassesOwn (model X.prog X.w) X.A X.env X.xe) (hc : X.calm = true) (hi : PI X tg iter (tI fc.k fc.ow fi)) (hg : PG X tg (tG fc.k fc.ow js h)) (hb : PSs X body (tS fc f)) (hjs : ∀ j ∈ js, j ∉ fc.ow := by decide)
    (hs : ∀ x, foldedSetIterable iter X.env x = pure x := by intro _; rfl) : PS X (.For tg iter body [] pos) (tS fc (stFor fi h f)) := ps_imp (ps_for hp hc hi hg hb hs) fun D σ H ⟨F, δ, o, b, x, s, hf, q⟩ => by
  obtain ⟨ds, h1, h2⟩ := Option.bind_eq_some_iff.mp hf
  refine ⟨fc.me, fc.H0, F, δ, ds, b.fh, x, h1, fun J F1 H1 n1 w => ?_⟩
  let Pv : Nat → L2.St → Hp → Prop := fun i σ H => ∃ F2 δ2, fc.B F2 H ∧ Ext F1 F2 ∧ fc.S F2 H σ δ2 ∧ Sf fc σ ∧ forL h f (ds.drop i) δ2 = some o
  refine ⟨fun i m σ H => m = ds.length - i ∧ i ≤ ds.length ∧ Pv i σ H, ⟨ds.length, by simp, Nat.zero_le _, F1, δ, b.step n1, Ext.refl _, x.step n1, s, h2⟩, ?_⟩
  rintro i m σ2 H2 ⟨rfl, hi2, F2, δ2, b2, e2, x2, s2, hr⟩
  obtain ⟨wg, ws⟩ := w i H2 F2 e2 b2.fh trivial
  by_cases hlt : i < ds.length
  · have hd : ds[i]? = some ds[i] := by simp [hlt]
    obtain ⟨go, step⟩ := wg _ hd
    refine .inr ⟨go, Pv (i + 1), fun σ' H' p' => ⟨ds.length - (i + 1), by omega, rfl, hlt, p'⟩, fun x1 H' y => ?_⟩
    obtain ⟨F3, n3, r3⟩ := step x1 H' y
    have hdrop : ds.drop i = ds[i] :: ds.drop (i + 1) := List.drop_eq_getElem_cons hlt
    rw [hdrop] at hr
    obtain ⟨δ3, e3, e4⟩ := Option.bind_eq_some_iff.mp hr
    obtain ⟨o1, e5, e6⟩ := Option.bind_eq_some_iff.mp e4
    refine ⟨fc.me, fc.H0, F3, δ2, ds[i], δ3, n3.fh, x2.step n3, r3, e3, fun σ4 x4 l4 k4 => ⟨F3, δ3, o1, b2.step n3, x4, s2.keep hjs k4, e5, ?_⟩⟩
    cases o1 with
    | nx δ5 => exact fun σ5 F5 H5 b5 e7 x5 s5 => ⟨F5, δ5, b5, (e2.trans n3.f).trans e7, x5, s5, e6⟩
    | ct δ5 => exact fun σ5 F5 H5 b5 e7 x5 s5 => ⟨F5, δ5, b5, (e2.trans n3.f).trans e7, x5, s5, e6⟩
    | bk δ5 => cases e6; exact fun σ5 F5 H5 b5 e7 x5 s5 => q σ5 F5 H5 b5 (((n1.f.trans e2).trans n3.f).trans e7) x5 s5
    | rt d δ5 => cases e6; exact q
    | ex c δ5 => cases e6; exact q
  · have e : i = ds.length := by omega
    subst e
    rw [List.drop_length] at hr
    cases hr
    exact .inl ⟨ws (Nat.le_refl _), q σ2 F2 H2 b2 (n1.f.trans e2) x2 s2⟩
end
end Dl
set_option Elab.async false
set_option linter.all false
set_option maxRecDepth 100000
set_option maxHeartbeats 4000000
/-! While, lists that change, raise, calls that change or raise, defs. -/
namespace Dl
open PySem PySem.Spec PyProof.Rows L2

section
variable {X : Cx} {fc : Fc} {e : Expr} {st : Stmt} {rest : List Stmt} {pos : Pos} {f g : Dt → Option Out} {fa fb : Dt → Option PyData}
def whN (c : Dt → Option Bool) (fb : Dt → Option Out) : Nat → Dt → Option Out
  | 0, _ => none
  | n + 1, δ => (c δ).bind fun z => if z = true then (fb δ).bind fun o => match o with
    | .nx δ2 => whN c fb n δ2
    | .ct δ2 => whN c fb n δ2
    | .bk δ2 => some (.nx δ2)
    | o => some o else some (.nx δ)
def stWhile (fu : Nat) (c : Dt → Option Bool) (fb : Dt → Option Out) : Dt → Option Out := fun δ => whN c fb fu δ
theorem ds_while {fu : Nat} {c : Expr} {body : List Stmt} {ft : Dt → Option Bool} (hp : PassesOwn (model X.prog X.w) X.A X.env X.xe) (hc : PT X c (tDT fc.k fc.ow ft)) (hb : PSs X body (tS fc f)) : PS X (.While c body [] pos) (tS fc (stWhile fu ft f)) :=
  ps_imp (ps_while hp hc hb) fun D σ H ⟨F, δ, o, b, x, s, hf, q⟩ => by
  let W : Nat → L2.St → Hp → Prop := fun m σ H => ∃ F2 δ2, fc.B F2 H ∧ Ext F F2 ∧ fc.S F2 H σ δ2 ∧ Sf fc σ ∧ whN ft f m δ2 = some o
  refine ⟨W, ⟨fu, F, δ, b, Ext.refl _, x, s, hf⟩, fun m σ2 H2 ⟨F2, δ2, b2, e2, x2, s2, hw⟩ => ?_⟩
  cases m with
  | zero => cases hw
  | succ m =>
    obtain ⟨z, h1, h2⟩ := Option.bind_eq_some_iff.mp hw
    refine ⟨fc.me, fc.H0, F2, δ2, z, b2.fh, x2, h1, fun F3 H3 n3 => ?_⟩
    cases z with
    | true =>
      rw [if_pos rfl] at h2
      obtain ⟨o1, h3, h4⟩ := Option.bind_eq_some_iff.mp h2
      refine ite2 (fun _ => ⟨W m, fun σ' H' w => ⟨m, Nat.lt_succ_self m, w⟩, F3, δ2, o1, b2.step n3, x2.step n3, s2, h3, ?_⟩) fun z => absurd rfl z
      cases o1 with
      | nx δ5 => exact fun σ5 F5 H5 b5 e7 x5 s5 => ⟨F5, δ5, b5, (e2.trans n3.f).trans e7, x5, s5, h4⟩
      | ct δ5 => exact fun σ5 F5 H5 b5 e7 x5 s5 => ⟨F5, δ5, b5, (e2.trans n3.f).trans e7, x5, s5, h4⟩
      | bk δ5 => cases h4; exact fun σ5 F5 H5 b5 e7 x5 s5 => q σ5 F5 H5 b5 ((e2.trans n3.f).trans e7) x5 s5
      | rt d δ5 => cases h4; exact q
      | ex c δ5 => cases h4; exact q
    | false =>
      rw [if_neg Bool.false_ne_true] at h2
      cases h2
      exact ite2 (fun z => nomatch z) fun _ => q σ2 F3 H3 (b2.step n3) (e2.trans n3.f) (x2.step n3) s2
/-! ### a list in a slot of ow is written -/
theorem Sl.putL {k : Cl} {me : Option Addr} {H0 F H : Hp} {ow : List Nat} {σ : L2.St} {δ : Dt} {i : Nat} {l : Addr} {xs : List V} {d ds : PyData} {o : HO} (x : Sl k me H0 F H ow σ δ) (hi : i ∈ ow) (hd : δ[i]? = some (some d)) (hl : σ[i]? = some (some (.ref l))) (new : Own k F (upd H l o) l ds) : Sl k me H0 F (upd H l o) ow σ (δ.set i (some ds)) := by
  have key : ∀ {j : Nat} {u : PyData}, j ≠ i → (δ.set i (some ds))[j]? = some (some u) → δ[j]? = some (some u) := fun {j u} h e => by
    rw [List.getElem?_set_ne h.symm] at e
    exact e
  have at_ : ∀ {u : PyData}, (δ.set i (some ds))[i]? = some (some u) → u = ds := fun {u} e => by
    rw [List.getElem?_set_self (List.getElem?_eq_some_iff.mp hd).1] at e
    cases e
    rfl
  have back : ∀ {j : Nat} {u : PyData}, (δ.set i (some ds))[j]? = some (some u) → ∃ u', δ[j]? = some (some u') := fun {j u} e => by
    by_cases h : j = i
    · subst h; exact ⟨d, hd⟩
    · exact ⟨u, key h e⟩
  have hpl : ∀ u, H l = some u → Pl u := by
    obtain ⟨l', e1, _, e2⟩ := x.own i d hi hd
    rw [hl] at e1
    cases e1
    exact e2.pl
  refine ⟨by rw [List.length_set]; exact x.len, fun j u hj e => x.fz j u hj (key (fun z => hj (z ▸ hi)) e), fun j u hj e => ?_, fun j m a b hj hm ne e1 e2 => ?_, Tabs.upd x.tab hpl⟩
  · by_cases h : j = i
    · subst h
      obtain rfl := at_ e
      obtain ⟨l', e1, e2, _⟩ := x.own j d hi hd
      rw [hl] at e1
      cases e1
      exact ⟨l, hl, e2, new⟩
    · have e0 := key h e
      obtain ⟨l', e1, e2, e3, e4⟩ := x.own j u hj e0
      have ne : l' ≠ l := fun z => by
        subst z
        exact x.ne j i u d hj hi h e0 hd (by rw [e1, hl])
      refine ⟨l', e1, e2, e3, ?_⟩
      rw [upd_ne ne]
      exact e4
  · obtain ⟨a', e1'⟩ := back e1
    obtain ⟨b', e2'⟩ := back e2
    exact x.ne j m a' b' hj hm ne e1' e2'
theorem Bx.put {T : Tb} {me : Option Addr} {F0 H0 F H : Hp} (b : Bx T me F0 H0 F H) {l : Addr} {o : HO} (h0 : H0 l = none ∨ me = some l) (hF : F l = none) (hp : ∀ u, H l = some u → Pl u) : Bx T me F0 H0 F (upd H l o) := by
  have na : ∀ {a : Addr} {u : HO}, H0 a = some u → me ≠ some a → a ≠ l := fun {a u} e ne z => by
    subst z
    rcases h0 with h0 | h0
    · rw [h0] at e; cases e
    · exact ne h0
  refine ⟨fun a u e ne nt => by rw [upd_ne (na e ne)]; exact b.h a u e ne nt, fun a ps e ne => by rw [upd_ne (na e ne)]; exact b.tb a ps e ne, fun t => Tabs.upd (b.ts t) hp, b.f, b.fh.mut hF, b.fr, fun a e => ?_⟩
  by_cases z : a = l
  · subst z; exact ⟨o, upd_same⟩
  · rw [upd_ne z]; exact b.mt a e
def stApp (i : Nat) (f : Dt → Option PyData) : Dt → Option Out := fun δ => match (δ[i]?).join, f δ with
  | some (.list l), some d => if l.length < sizeLine then some (.nx (δ.set i (some (.list (l ++ [d]))))) else none
  | _, _ => none
theorem ds_app {i : Nat} (h : PS X st (tDrop (tBM X.K "list" rAppend (tVar i) (tCons (tD fc.k fc.ow fa) tNil)))) (hi : i ∈ fc.ow := by decide) : PS X st (tS fc (stApp i fa)) := ps_imp h fun D σ H ⟨F, δ, o, b, x, s, hf, q⟩ => by
  unfold stApp at hf
  split at hf
  · rename_i ds d h1 h2
    split at hf
    · rename_i hz
      cases hf
      have hd := vr_some h1
      obtain ⟨l, e1, e2, e3, e4⟩ := x.own i _ hi hd
      rcases e4 with ⟨xs, ds', z, r, ee⟩ | ⟨_, _, _, _, _, ee⟩
      · cases ee
        refine ⟨_, e1, Or.inl ⟨rfl, xs, SqL.of z⟩, fc.me, fc.H0, F, δ, d, b.fh, x, h2, fun v F1 H1 n1 r1 => ⟨l, xs, v, rfl, rfl, n1.h.g z, by rw [r.length]; exact hz, ?_⟩⟩
        have b1 := b.step n1
        have x1 := x.step n1
        have f1 : F1 l = none := n1.fr l _ z e3
        exact q σ F1 _ (b1.put (e2.imp id fun w => w.2) f1 (pl_at (n1.h.g z) pl_lst)) n1.f (x1.putL hi hd e1 (xs := xs) ⟨f1, .inl ⟨_, _, upd_same, (r.mono n1.f).snoc r1, rfl⟩⟩) s
      · cases ee
    · cases hf
  · cases hf
/-- xs[i] = e -/
def stPut (i : Nat) (fv fi : Dt → Option PyData) : Dt → Option Out := fun δ => match (δ[i]?).join, fv δ, fi δ with
  | some (.list l), some d, some (.int n) => (ixN l.length n).map fun j => .nx (δ.set i (some (.list (l.set j d))))
  | _, _, _ => none
theorem ds_put {i : Nat} (h : PS X st (tAsg (tD fc.k fc.ow fa) (gSub (tVar i) (tD fc.k fc.ow fb) rSetL))) (hi : i ∈ fc.ow := by decide) : PS X st (tS fc (stPut i fa fb)) := ps_imp h fun D σ H ⟨F, δ, o, b, x, s, hf, q⟩ => by
  unfold stPut at hf
  split at hf
  · rename_i ds d n h1 h2 h3
    obtain ⟨j, hj, rfl⟩ := Option.map_eq_some_iff.mp hf
    have hd := vr_some h1
    obtain ⟨l, e1, e2, e3, e4⟩ := x.own i _ hi hd
    rcases e4 with ⟨xs, ds', z, r, ee⟩ | ⟨_, _, _, _, _, ee⟩
    · cases ee
      refine ⟨fc.me, fc.H0, F, δ, d, b.fh, x, h2, fun v F1 H1 n1 r1 => ⟨_, e1, fc.me, fc.H0, F1, δ, _, n1.fh, x.step n1, h3, fun u F2 H2 n2 r2 => ?_⟩⟩
      cases r2
      have nn := n1.trans n2
      have f2 : F2 l = none := nn.fr l _ z e3
      refine ⟨l, xs, n, j, rfl, rfl, nn.h.g z, by rw [r.length]; exact hj, ?_⟩
      exact q σ F2 _ ((b.step nn).put (e2.imp id fun w => w.2) f2 (pl_at (nn.h.g z) pl_lst)) nn.f ((x.step nn).putL hi hd e1 (xs := xs) ⟨f2, .inl ⟨_, _, upd_same, (r.mono nn.f).set (r1.mono n2.f) j, rfl⟩⟩) s
    · cases ee
  · cases hf
/-! ### raise -/
def tEx (k : Cl) (ow : List Nat) (c : Nat) (f : Dt → Option (List PyData)) : L2.St → Hp → XK → Prop := fun σ H Q => ∃ me H0 F δ ds, FIn F H ∧ Sl k me H0 F H ow σ δ ∧ f δ = some ds ∧ ∀ dd F' H', Nx k.T F H F' H' → ExD k.T dd H' → Q (.ref (k.ec c)) dd H'
def stRaise (c : Nat) (f : Dt → Option (List PyData)) : Dt → Option Out := fun δ => (f δ).map fun _ => .ex c δ
theorem ds_raise {c : Nat} {fl : Dt → Option (List PyData)} (hc : X.calm = true) (tk : Takes X fun cls d _ H => fc.E cls d H) (he : PMk X e (tEx fc.k fc.ow c fl)) : PS X (.Raise (some e) none pos) (tS fc (stRaise c fl)) := ps_imp (ps_raise hc tk he) fun D σ H ⟨F, δ, o, b, x, s, hf, q⟩ => by
  obtain ⟨d, h1, rfl⟩ := Option.map_eq_some_iff.mp hf
  exact ⟨fc.me, fc.H0, F, δ, d, b.fh, x, h1, fun dd F' H' n xd => q F' H' dd (b.step n) (.of (x.step n) s) xd⟩
/-! ### expressions that raise or change -/
inductive Er where
  | ok (d : PyData) (δ : Dt)
  | ex (c : Nat) (δ : Dt)
def ErP (fc : Fc) (Q : VK) (σ : L2.St) (F0 : Hp) : Er → Prop
  | .ok d δ => ∀ v F H, fc.B F H → Ext F0 F → fc.S F H σ δ → Rp fc.k F v d → Q v H
  | .ex c δ => ∀ F H dd, fc.B F H → Mk fc F H δ → ExD fc.k.T dd H → fc.E (.ref (fc.k.ec c)) dd H
def tE (fc : Fc) (f : Dt → Option Er) : TE := fun σ H Q => ∃ F δ r, fc.B F H ∧ fc.S F H σ δ ∧ Sf fc σ ∧ f δ = some r ∧ ErP fc Q σ F r
def stE (f : Dt → Option Er) : Dt → Option Out := fun δ => (f δ).map fun r => match r with
  | .ok _ δ' => .nx δ'
  | .ex c δ' => .ex c δ'
theorem ds_exprE {fe : Dt → Option Er} (h : PE X e (tE fc fe)) (hs : swapsWith e none pos.line X.env = pure false := by rfl) : PS X (.Expr e pos) (tS fc (stE fe)) := ps_imp (ps_expr h hs) fun D σ H ⟨F, δ, o, b, x, s, hf, q⟩ => by
  obtain ⟨r, h1, h2⟩ := Option.map_eq_some_iff.mp hf
  subst h2
  refine ⟨F, δ, r, b, x, s, h1, ?_⟩
  cases r with
  | ok d δ' => exact fun v F' H' b' e' x' _ => q σ F' H' b' e' x' s
  | ex c δ' => exact q
def stSetE (i : Nat) (f : Dt → Option Er) : Dt → Option Out := fun δ => (f δ).map fun r => match r with
  | .ok d δ' => .nx (δ'.set i (some d))
  | .ex c δ' => .ex c δ'
theorem ds_setE {i : Nat} {fe : Dt → Option Er} (h : PS X st (tAsg (tE fc fe) (gName i))) (hi : i ∉ fc.ow := by decide) : PS X st (tS fc (stSetE i fe)) := ps_imp h fun D σ H ⟨F, δ, o, b, x, s, hf, q⟩ => by
  obtain ⟨r, h1, h2⟩ := Option.map_eq_some_iff.mp hf
  subst h2
  refine ⟨F, δ, r, b, x, s, h1, ?_⟩
  cases r with
  | ok d δ' => exact fun v F' H' b' e' x' r' => q _ F' H' b' e' (x'.setF hi r') (s.set hi)
  | ex c δ' => exact q
def stRetE (f : Dt → Option Er) : Dt → Option Out := fun δ => (f δ).map fun r => match r with
  | .ok d δ' => .rt d δ'
  | .ex c δ' => .ex c δ'
theorem ds_retE {fe : Dt → Option Er} (h : PE X e (tE fc fe)) : PS X (.Return (some e) pos) (tS fc (stRetE fe)) := ps_imp (ps_ret h) fun D σ H ⟨F, δ, o, b, x, s, hf, q⟩ => by
  obtain ⟨r, h1, h2⟩ := Option.map_eq_some_iff.mp hf
  subst h2
  refine ⟨F, δ, r, b, x, s, h1, ?_⟩
  cases r with
  | ok d δ' => exact fun v F' H' b' e' x' r' => q v F' H' b' (.of x' s) r'
  | ex c δ' => exact q
section
variable {lv n : Nat} {fn : Addr} {fd : FuncData} {ps ks : List Str} {gr : List PyData → Option Rs} {x : Str} {p : Pos} {es : List Expr} {kws : List Keyword}
def eCall (n : Nat) (g : List PyData → Option Rs) (f : Dt → Option (List PyData)) : Dt → Option Er := fun δ => (f δ).bind fun ds => if ds.length = n then (g ds).map fun r => match r with
  | .ok d => .ok d δ
  | .ex c => .ex c δ else none
theorem eCall_tE {fl : Dt → Option (List PyData)} : ∀ σ H Q, tE fc (eCall n gr fl) σ H Q → tDA fc.k fc.ow fl σ H fun vs H1 => spP fc.k n gr vs H1 Q fc.E := fun σ H Q ⟨F, δ, r, b, x, s, hf, q⟩ => by
  obtain ⟨ds, h1, h2⟩ := Option.bind_eq_some_iff.mp hf
  split at h2
  · rename_i hl
    obtain ⟨r0, h3, h4⟩ := Option.map_eq_some_iff.mp h2
    subst h4
    refine ⟨fc.me, fc.H0, F, δ, ds, b.fh, x, h1, fun vs F1 H1 n1 r1 => ⟨F1, ds, r0, n1.fh, n1.h.ts x.tab, r1, hl, h3, ?_⟩⟩
    cases r0 with
    | ok d => exact fun v F' H' n' r' => q v F' H' (b.step (n1.trans n')) (n1.trans n').f (x.step (n1.trans n')) r'
    | ex c => exact fun F' H' dd n' xd => q F' H' dd (b.step (n1.trans n')) (.of (x.step (n1.trans n')) s) xd
  · cases h2
theorem e_call (G : FnOk X.prog X.w X.K X.mg X.base (L2.CX X.prog X.w) lv fn fd ps (spP fc.k n gr)) (tk : Takes X fun cls d _ H => fc.E cls d H) (hr : Room lv X.A) (hg : Gl X x) (hm : X.mg x = some (.ref fn)) (hk : PySem.W.keepIn X.K (.ref fn) = true) (hb : Binds X.K fd ps []) {fl : Dt → Option (List PyData)} (ha : PA X (e :: es) (tDA fc.k fc.ow fl))
    (hdb : (x == ("__debug__" : Str)) = false := by decide) (he : starEach (e :: es) X.env = (false, eval e X.env) :: starEach es X.env := by rfl) (hpl : (backTo pos (starEach es X.env)).any (·.1) = false := by rfl) :
    PE X (.Call (.Name x p) (e :: es) [] pos) (tE fc (eCall n gr fl)) :=
  pe_imp (pe_call G hr hg hm hk hb .nil (passes_call tk fun _ _ _ _ h => h) ha hdb he hpl) fun σ H Q h => by
  obtain ⟨me, H0, F, δ, ds, a1, a2, a3, a4⟩ := eCall_tE σ H Q h
  exact ⟨me, H0, F, δ, ds, a1, a2, a3, fun vs F1 H1 n1 r1 => by
    show spP fc.k n gr (vs ++ []) H1 Q fc.E
    rw [List.append_nil]
    exact a4 vs F1 H1 n1 r1⟩
theorem e_callK (G : FnOk X.prog X.w X.K X.mg X.base (L2.CX X.prog X.w) lv fn fd ps (spP fc.k n gr)) (tk : Takes X fun cls d _ H => fc.E cls d H) (hr : Room lv X.A) (hg : Gl X x) (hm : X.mg x = some (.ref fn)) (hk : PySem.W.keepIn X.K (.ref fn) = true) {na nb : Nat} (hb : KB X.K fd ps ks na nb) {fl fk : Dt → Option (List PyData)} (ha : PA X (e :: es) (tDA fc.k fc.ow fl)) (hkw : PK X kws (tDA fc.k fc.ow fk))
    (hall : (backToKw pos (keywordEach kws X.env)).all (·.1.isSome) = true := by rfl) (hks : (backToKw pos (keywordEach kws X.env)).filterMap (·.1) = ks := by rfl)
    (hdb : (x == ("__debug__" : Str)) = false := by decide) (he : starEach (e :: es) X.env = (false, eval e X.env) :: starEach es X.env := by rfl)
    (hpl : ((backTo pos (starEach (e :: es) X.env)).any (·.1) || (backToKw pos (keywordEach kws X.env)).any (·.1.isNone)) = false := by rfl) :
    PE X (.Call (.Name x p) (e :: es) kws pos) (tE fc (eCall n gr (aCat na nb fl fk))) :=
  pe_imp (pe_callK G hr hg hm hk hb (passes_call tk fun _ _ _ _ h => h) ha hkw hall hks hdb he hpl) fun σ H Q h => by
  obtain ⟨me, H0, F, δ, ds, a1, a2, a3, a4⟩ := eCall_tE σ H Q h
  obtain ⟨a, b, h3, h5, la, lb, rfl⟩ := aCat_some a3
  exact ⟨me, H0, F, δ, a, a1, a2, h3, fun vs F1 H1 n1 r1 => ⟨me, H0, F1, δ, b, n1.fh, a2.step n1, h5, fun zs F2 H2 n2 r2 => by
    show spP fc.k n gr (gA na nb vs zs) H2 Q fc.E
    rw [gA_eq (r1.length.trans la) (r2.length.trans lb)]
    exact a4 _ F2 H2 (n1.trans n2) ((r1.mono n2.f).append r2)⟩⟩
end
end

/-! ### promises of methods that change their object -/
inductive Rm where
  | ok (d : PyData) (kvs : List (PyData × PyData))
  | ex (c : Nat) (kvs : List (PyData × PyData))
abbrev tagO (kvs : List (PyData × PyData)) : PyData := .dict ((.none, .int 1) :: kvs)
abbrev tagS (kvs : List (PyData × PyData)) : PyData := .dict ((.none, .int 0) :: kvs)
def RmP (k : Cl) (p : Addr) (F H : Hp) (Q : VK) (E : XK) : Rm → Prop
  | .ok d kvs => ∀ v F' H', Bx k.T (some p) F H F' H' → Own k F' H' p (tagO kvs) → Rp k F' v d → Q v H'
  | .ex c kvs => ∀ F' H' dd, Bx k.T (some p) F H F' H' → Own k F' H' p (tagO kvs) → ExD k.T dd H' → E (.ref (k.ec c)) dd H'
def spM (k : Cl) (n : Nat) (f : List (PyData × PyData) → List PyData → Option Rm) : Sp := fun vs H Q E => ∃ F p dx fs kvs vs' ds r, vs = .ref p :: vs' ∧ FIn F H ∧ LamX.Tabs k.T H ∧ F p = none ∧ H p = some (.ins k.O dx fs) ∧ RpF k F fs kvs ∧ RpA k F vs' ds ∧ ds.length + 1 = n ∧ f kvs ds = some r ∧ RmP k p F H Q E r
theorem spM_len {k : Cl} {n : Nat} {f : List (PyData × PyData) → List PyData → Option Rm} {vs : List V} {H : Hp} {Q : VK} {E : XK} (h : spM k n f vs H Q E) : vs.length = n := by
  obtain ⟨F, p, dx, fs, kvs, vs', ds, r, rfl, _, _, _, _, _, a, b, _⟩ := h
  rw [List.length_cons, a.length, b]
/-- no attribute of that name -/
def noF (m : Str) : List (PyData × PyData) → Bool
  | [] => true
  | (.str n, _) :: r => !decide (m = n) && noF m r
  | _ :: r => noF m r
theorem noF_lookup {k : Cl} {F : Hp} {m : Str} : ∀ {fs : List (Str × V)} {kvs : List (PyData × PyData)}, RpF k F fs kvs → noF m kvs = true → fs.lookup m = none
  | _, _, .nil, _ => rfl
  | _, _, .cons (n := n) _ r, h => by
    have h : (!decide (m = n) && noF m _) = true := h
    rw [Bool.and_eq_true] at h
    have hn : ¬ m = n := by simpa using h.1
    have e1 : (m == n) = false := by simpa using hn
    simp only [List.lookup, e1]
    exact noF_lookup r h.2
section
variable {X : Cx} {fc : Fc} {lv n : Nat} {fn : Addr} {fd : FuncData} {ps ks : List Str} {gr : List (PyData × PyData) → List PyData → Option Rm} {m : Str} {o e : Expr} {es : List Expr} {kws : List Keyword} {pos apos : Pos}
def eMeth (i : Nat) (m : Str) (n : Nat) (g : List (PyData × PyData) → List PyData → Option Rm) (f : Dt → Option (List PyData)) : Dt → Option Er := fun δ => match (δ[i]?).join with
  | some (.dict ((.none, .int 1) :: kvs)) => if noF m kvs = true then (f δ).bind fun ds => if ds.length + 1 = n then (g kvs ds).map fun r => match r with
    | .ok d kvs' => .ok d (δ.set i (some (tagO kvs')))
    | .ex c kvs' => .ex c (δ.set i (some (tagO kvs'))) else none else none
  | _ => none
/-- behind a call that changed p -/
theorem Bx.after {T : Tb} {me : Option Addr} {F0 H0 F H F' H' : Hp} {p : Addr} (b : Bx T me F0 H0 F H) (h0 : H0 p = none ∨ me = some p) (c : Bx T (some p) F H F' H') : Bx T me F0 H0 F' H' := by
  have np : ∀ {a : Addr} {o : HO}, H0 a = some o → me ≠ some a → some p ≠ some a := fun {a o} e ne z => by
    cases z
    rcases h0 with h0 | h0
    · rw [h0] at e; cases e
    · exact ne h0
  refine ⟨fun a o e ne nt => c.h a o (b.h a o e ne nt) (np e ne) nt, fun a ps e ne => let ⟨ps', z⟩ := b.tb a ps e ne; c.tb a ps' z (np e ne), fun t => c.ts (b.ts t), b.f.trans c.f, c.fh, fun a o e n => ?_, fun a e => ?_⟩
  · obtain ⟨o', z⟩ := b.there e
    exact c.fr a o' z (b.fr a o e n)
  · obtain ⟨o', y⟩ := b.mt a e
    exact c.there y
theorem Sl.after {k : Cl} {me : Option Addr} {H0 F H F' H' : Hp} {ow : List Nat} {σ : L2.St} {δ : Dt} {i : Nat} {p : Addr} {d d' : PyData} (x : Sl k me H0 F H ow σ δ) (hi : i ∈ ow) (hd : δ[i]? = some (some d)) (hl : σ[i]? = some (some (.ref p))) (c : Bx k.T (some p) F H F' H') (new : Own k F' H' p d') : Sl k me H0 F' H' ow σ (δ.set i (some d')) := by
  have key : ∀ {j : Nat} {u : PyData}, j ≠ i → (δ.set i (some d'))[j]? = some (some u) → δ[j]? = some (some u) := fun {j u} h e => by
    rw [List.getElem?_set_ne h.symm] at e
    exact e
  have at_ : ∀ {u : PyData}, (δ.set i (some d'))[i]? = some (some u) → u = d' := fun {u} e => by
    rw [List.getElem?_set_self (List.getElem?_eq_some_iff.mp hd).1] at e
    cases e
    rfl
  have back : ∀ {j : Nat} {u : PyData}, (δ.set i (some d'))[j]? = some (some u) → ∃ u', δ[j]? = some (some u') := fun {j u} e => by
    by_cases h : j = i
    · subst h; exact ⟨d, hd⟩
    · exact ⟨u, key h e⟩
  refine ⟨by rw [List.length_set]; exact x.len, fun j u hj e => ?_, fun j u hj e => ?_, fun j m a b hj hm ne e1 e2 => ?_, c.ts x.tab⟩
  · obtain ⟨v, a1, a2⟩ := x.fz j u hj (key (fun z => hj (z ▸ hi)) e)
    exact ⟨v, a1, a2.mono c.f⟩
  · by_cases h : j = i
    · subst h
      obtain rfl := at_ e
      obtain ⟨l', e1, e2, _⟩ := x.own j d hi hd
      rw [hl] at e1
      cases e1
      exact ⟨p, hl, e2, new⟩
    · have e0 := key h e
      obtain ⟨l', e1, e2, e3⟩ := x.own j u hj e0
      have ne : some p ≠ some l' := fun z => by
        cases z
        exact x.ne j i u d hj hi h e0 hd (by rw [e1, hl])
      obtain ⟨o', y⟩ := e3.there
      refine ⟨l', e1, e2, c.fr l' o' y e3.1, ?_⟩
      rcases e3.2 with ⟨xs, ds, z, r, w⟩ | ⟨dx, fs, kvs, z, r, w⟩
      · exact .inl ⟨xs, ds, c.h _ _ z ne (by intro _ z; cases z), r.mono c.f, w⟩
      · exact .inr ⟨dx, fs, kvs, c.h _ _ z ne (by intro _ z; cases z), r.mono c.f, w⟩
  · obtain ⟨a', e1'⟩ := back e1
    obtain ⟨b', e2'⟩ := back e2
    exact x.ne j m a' b' hj hm ne e1' e2'
theorem Mk.after {fc : Fc} {F H : Hp} {σ : L2.St} {δ : Dt} {i : Nat} {d' : PyData} (x : fc.S F H σ (δ.set i (some d'))) (s : Sf fc σ) : Mk fc F H (δ.set i (some d')) := .of x s
theorem meth_tE {i : Nat} {fl : Dt → Option (List PyData)} (hi : i ∈ fc.ow) : ∀ σ H Q, tE fc (eMeth i m n gr fl) σ H Q → tVar i σ H fun x H1 => ∃ a dx fs, x = .ref a ∧ H1 a = some (.ins fc.k.O dx fs) ∧ fs.lookup m = none ∧ tDA fc.k fc.ow fl σ H1 fun vs H2 => spM fc.k n gr (x :: vs) H2 Q fc.E := fun σ H Q ⟨F, δ, r, b, x, s, hf, q⟩ => by
  unfold eMeth at hf
  split at hf
  · rename_i kvs h1
    split at hf
    · rename_i hno
      obtain ⟨ds, h2, h3⟩ := Option.bind_eq_some_iff.mp hf
      split at h3
      · rename_i hl
        obtain ⟨r0, h4, h5⟩ := Option.map_eq_some_iff.mp h3
        subst h5
        have hd := vr_some h1
        obtain ⟨p, e1, e2, e3, e4⟩ := x.own i _ hi hd
        rcases e4 with ⟨_, _, _, _, ee⟩ | ⟨dx, fs, kvs', z, rf, ee⟩
        · cases ee
        · cases ee
          refine ⟨_, e1, p, dx, fs, rfl, z, noF_lookup rf hno, fc.me, fc.H0, F, δ, ds, b.fh, x, h2, fun vs F1 H1 n1 r1 => ?_⟩
          have b1 := b.step n1
          have x1 := x.step n1
          have z1 := n1.h.g z
          have e20 := e2.imp id fun (w : i = 0 ∧ fc.me = some p) => w.2
          refine ⟨F1, p, dx, fs, kvs, vs, ds, r0, rfl, n1.fh, n1.h.ts x.tab, n1.fr p _ z e3, z1, rf.mono n1.f, r1, hl, h4, ?_⟩
          cases r0 with
          | ok d kvs2 => exact fun v F' H' c new r' => q v F' H' (b1.after e20 c) (n1.f.trans c.f) (x1.after hi hd e1 c new) r'
          | ex cc kvs2 => exact fun F' H' dd c new xd => q F' H' dd (b1.after e20 c) (.of (x1.after hi hd e1 c new) s) xd
      · cases h3
    · cases hf
  · cases hf
theorem e_meth {i : Nat} {pl : Sem Bool} {fl : Dt → Option (List PyData)} (G : FnOk X.prog X.w X.K X.mg X.base (L2.CX X.prog X.w) lv fn fd ps (spM fc.k n gr)) (tk : Takes X fun cls d _ H => fc.E cls d H) (hi : i ∈ fc.ow) (ho : PE X o (tVar i)) (c : Cls X.K fc.k.O) (hm : Meth X.K fc.k.O m fn) (hr : Room lv X.A) (hb : Binds X.K fd ps []) (ha : PA X (e :: es) (tDA fc.k fc.ow fl))
    (hst : starEach (e :: es) X.env = (false, eval e X.env) :: starEach es X.env := by rfl) (hpl : (backTo pos (starEach es X.env)).any (·.1) = false := by rfl)
    (ht : eval (.Call (.Attribute o m apos) (e :: es) [] pos) X.env = (do
      let ov ← eval o X.env
      standAt apos.atName
      let (f, first) ← holding [ov] (getMethod ov m pl)
      callWith pos f first (backTo pos (starEach (e :: es) X.env)) (backToKw pos (keywordEach [] X.env))) := by rfl) :
    PE X (.Call (.Attribute o m apos) (e :: es) [] pos) (tE fc (eMeth i m n gr fl)) :=
  pe_imp (pe_meth ho c hm G hr hb .nil (passes_call tk fun _ _ _ _ h => h) ha hst hpl ht) fun σ H Q h => by
  obtain ⟨v, a1, a, dx, fs, rfl, a2, a3, me, H0, F, δ, ds, b1, b2, b3, b4⟩ := meth_tE hi σ H Q h
  exact ⟨_, a1, a, dx, fs, rfl, a2, a3, me, H0, F, δ, ds, b1, b2, b3, fun vs F1 H1 n1 r1 => by
    show spM fc.k n gr (.ref a :: (vs ++ [])) H1 Q fc.E
    rw [List.append_nil]
    exact b4 vs F1 H1 n1 r1⟩
end
end Dl
set_option Elab.async false
set_option linter.all false
set_option maxRecDepth 100000
set_option maxHeartbeats 4000000
/-! Bodies keep promises; methods, properties, fields, instances made, a freeze between statements. -/
namespace Dl
open PySem PySem.Spec PyProof.Rows L2

/-! ### bodies -/
def startD (N : List Str) (ds : List PyData) : Dt := ds.map some ++ List.replicate (N.length - ds.length) none
theorem startD_get {N : List Str} {ds : List PyData} {i : Nat} {d : PyData} (h : (startD N ds)[i]? = some (some d)) : ds[i]? = some d := by
  unfold startD at h
  by_cases hi : i < ds.length
  · rw [List.getElem?_append_left (by simpa using hi), List.getElem?_map] at h
    cases e : ds[i]? with
    | none => rw [e] at h; cases h
    | some a => rw [e] at h; cases h; rfl
  · rw [List.getElem?_append_right (by simpa using hi), List.getElem?_replicate] at h
    split at h <;> cases h
theorem start_get {N : List Str} {vs : List V} {i : Nat} {v : V} (h : vs[i]? = some v) : (L2.start N vs)[i]? = some (some v) := by
  have hi := (List.getElem?_eq_some_iff.mp h).1
  unfold L2.start
  rw [List.getElem?_append_left (by simpa using hi), List.getElem?_map, h]
  rfl
theorem start_len {N : List Str} {vs : List V} {ds : List PyData} (h : vs.length = ds.length) : (L2.start N vs).length = (startD N ds).length := by
  unfold L2.start startD
  simp [h]
theorem Sl.start {k : Cl} {F H : Hp} {ow : List Nat} {N : List Str} {vs : List V} {ds : List PyData} (tb : LamX.Tabs k.T H) (r : RpA k F vs ds) (how : ∀ i ∈ ow, ds.length ≤ i) : Sl k none H F H ow (L2.start N vs) (startD N ds) := by
  have no : ∀ {i d}, i ∈ ow → (startD N ds)[i]? = some (some d) → False := fun {i d} hi e => by
    have z := (List.getElem?_eq_some_iff.mp (startD_get e)).1
    have := how i hi
    omega
  refine ⟨start_len r.length, fun i d hi e => ?_, fun i d hi e => (no hi e).elim, fun i j a b hi hj n e1 e2 => (no hi e1).elim, tb⟩
  obtain ⟨v, h1, h2⟩ := r.getD (startD_get e)
  exact ⟨v, start_get h1, h2⟩
def outRs : Out → Option Rs
  | .nx _ => some (.ok .none)
  | .rt d _ => some (.ok d)
  | .ex c _ => some (.ex c)
  | _ => none
def runP (N : List Str) (f : Dt → Option Out) : List PyData → Option Rs := fun ds => (f (startD N ds)).bind outRs
section
variable {P : Program} {w : World} {K : PySem.W.Frag} {mg : Str → Option Value} {base : Heap} {x qual : Str} {params : Arguments} {body : List Stmt} {scope : Scope} {dvs : List V} {kws : List (Str × V)} {fa : Addr} {fd : FuncData}
theorem okP {k : Cl} {n lv : Nat} {N ps : List Str} {h : Dt → Option Out} (ow : List Nat) (F : FunD K x qual params body scope dvs kws fa fd) (S : FnScope N ps scope)
    (hb : ∀ (cdv : Value) (A : Around) (outer : List Env) (s : Shared) (H : Hp) (E : XK) (F0 H0 : Hp), Room lv (A.deeper (envOfC qual scope s.heap.objs.size fa cdv)) → PSs (cxOf (L2.CX P w) P w K mg base N qual scope fa cdv A outer s H E) body (tS ⟨k, none, F0, H0, ow, E⟩ h))
    (hn : ps.length = n := by rfl) (how : ∀ i ∈ ow, n ≤ i := by decide) : FnOk P w K mg base (L2.CX P w) (lv + 1) fa fd ps (spP k n (runP N h)) := by
  refine F.ok S (fun vs H Q E q => (spP_len q).trans hn.symm) fun cdv A outer s H vs Q E hr ⟨F1, ds, r, e1, tb, r1, hl, hf, q⟩ => ?_
  obtain ⟨o, h1, h2⟩ := Option.bind_eq_some_iff.mp hf
  refine ⟨_, hb cdv A outer s H E F1 H hr, F1, startD N ds, o, .refl e1 (fun a z => nomatch z), .start tb r1 (fun i hi => by rw [hl]; exact how i hi), (fun p z => nomatch z), h1, ?_⟩
  cases o with
  | nx δ => cases h2; exact fun σ F' H' b _ _ _ => q _ F' H' b.nx .non
  | rt d δ => cases h2; exact fun v F' H' b _ r' => q v F' H' b.nx r'
  | ex c δ => cases h2; exact fun F' H' dd b _ xd => q F' H' dd b.nx xd
  | bk δ => cases h2
  | ct δ => cases h2
end
/-- the instance's data in slot 0 -/
def sf0 (δ : Dt) : Option (List (PyData × PyData)) := match vr 0 δ with
  | some (.dict ((.none, .int 1) :: kvs)) => some kvs
  | _ => none
theorem sf0_some {δ : Dt} {kvs : List (PyData × PyData)} (h : sf0 δ = some kvs) : δ[0]? = some (some (tagO kvs)) := by
  unfold sf0 at h
  split at h
  · rename_i z
    cases h
    exact vr_some z
  · cases h
def outRm : Out → Option Rm
  | .nx δ => (sf0 δ).map (.ok .none)
  | .rt d δ => (sf0 δ).map (.ok d)
  | .ex c δ => (sf0 δ).map (.ex c)
  | _ => none
def runM (N : List Str) (f : Dt → Option Out) : List (PyData × PyData) → List PyData → Option Rm := fun kvs ds => (f (startD N (tagO kvs :: ds))).bind outRm
theorem Sl.startM {k : Cl} {F H : Hp} {ow : List Nat} {N : List Str} {vs : List V} {ds : List PyData} {p : Addr} {d0 : PyData} (tb : LamX.Tabs k.T H) (r : RpA k F vs ds) (o : Own k F H p d0) (how : ∀ i ∈ ow, i = 0 ∨ ds.length + 1 ≤ i) (h0 : 0 ∈ ow) : Sl k (some p) H F H ow (L2.start N (.ref p :: vs)) (startD N (d0 :: ds)) := by
  have only : ∀ {i d}, i ∈ ow → (startD N (d0 :: ds))[i]? = some (some d) → i = 0 := fun {i d} hi e => by
    have z := (List.getElem?_eq_some_iff.mp (startD_get e)).1
    rcases how i hi with h | h
    · exact h
    · rw [List.length_cons] at z
      omega
  refine ⟨start_len (by rw [List.length_cons, List.length_cons, r.length]), fun i d hi e => ?_, fun i d hi e => ?_, fun i j a b hi hj n e1 e2 => absurd ((only hi e1).trans (only hj e2).symm) n, tb⟩
  · cases i with
    | zero => exact absurd h0 hi
    | succ i =>
      have e' : ds[i]? = some d := by simpa using startD_get e
      obtain ⟨v, h1, h2⟩ := r.getD e'
      exact ⟨v, start_get (by simpa using h1), h2⟩
  · obtain rfl := only hi e
    have e' := startD_get e
    cases e'
    exact ⟨p, start_get rfl, .inr ⟨rfl, rfl⟩, o⟩
section
variable {P : Program} {w : World} {K : PySem.W.Frag} {mg : Str → Option Value} {base : Heap} {x qual : Str} {params : Arguments} {body : List Stmt} {scope : Scope} {dvs : List V} {kws : List (Str × V)} {fa : Addr} {fd : FuncData}
theorem okM {k : Cl} {n lv : Nat} {N ps : List Str} {h : Dt → Option Out} (ow : List Nat) (F : FunD K x qual params body scope dvs kws fa fd) (S : FnScope N ps scope)
    (hb : ∀ (cdv : Value) (A : Around) (outer : List Env) (s : Shared) (H : Hp) (E : XK) (p : Addr) (F0 H0 : Hp), Room lv (A.deeper (envOfC qual scope s.heap.objs.size fa cdv)) → PSs (cxOf (L2.CX P w) P w K mg base N qual scope fa cdv A outer s H E) body (tS ⟨k, some p, F0, H0, ow, E⟩ h))
    (hn : ps.length = n := by rfl) (how : ∀ i ∈ ow, i = 0 ∨ n ≤ i := by decide) (h0 : 0 ∈ ow := by decide) : FnOk P w K mg base (L2.CX P w) (lv + 1) fa fd ps (spM k n (runM N h)) := by
  refine F.ok S (fun vs H Q E q => (spM_len q).trans hn.symm) fun cdv A outer s H vs Q E hr ⟨F1, p, dx, fs, kvs, vs', ds, r, ev, e1, tb, f1, z1, rf, r1, hl, hf, q⟩ => ?_
  subst ev
  obtain ⟨o, h1, h2⟩ := Option.bind_eq_some_iff.mp hf
  have ow0 : Own k F1 H p (tagO kvs) := ⟨f1, .inr ⟨dx, fs, kvs, z1, rf, rfl⟩⟩
  refine ⟨_, hb cdv A outer s H E p F1 H hr, F1, startD N (tagO kvs :: ds), o, .refl e1 (fun a z => by cases z; exact ⟨_, z1⟩), .startM tb r1 ow0 (fun i hi => by rw [hl]; exact how i hi) h0, (fun p' z => by cases z; exact ⟨h0, start_get rfl⟩), h1, ?_⟩
  cases o with
  | nx δ =>
    obtain ⟨kvs', h3, rfl⟩ := Option.map_eq_some_iff.mp h2
    exact fun σ F' H' b _ x s => q _ F' H' b ((Mk.of x s) p _ rfl (sf0_some h3)) .non
  | rt d δ =>
    obtain ⟨kvs', h3, rfl⟩ := Option.map_eq_some_iff.mp h2
    exact fun v F' H' b m r' => q v F' H' b (m p _ rfl (sf0_some h3)) r'
  | ex c δ =>
    obtain ⟨kvs', h3, rfl⟩ := Option.map_eq_some_iff.mp h2
    exact fun F' H' dd b m xd => q F' H' dd b (m p _ rfl (sf0_some h3)) xd
  | bk δ => cases h2
  | ct δ => cases h2
end

/-! ### methods that only read -/
section
variable {X : Cx} {k : Cl} {ow : List Nat} {lv n : Nat} {fn p g : Addr} {fd : FuncData} {ps ks : List Str} {gr : List PyData → Option Rs} {m f : Str} {o e : Expr} {es : List Expr} {pos apos : Pos} {fo : Dt → Option PyData}
def fMeth (m : Str) (g : List PyData → Option Rs) (fo : Dt → Option PyData) : Dt → Option PyData := fun δ => (fo δ).bind fun d => match d with
  | .dict ((.none, .int 1) :: kvs) => if noF m kvs = true then okOf g [d] else none
  | _ => none
theorem d_meth0 {pl : Sem Bool} (G : FnOk X.prog X.w X.K X.mg X.base (L2.CX X.prog X.w) lv fn fd ps (spP k 1 gr)) (ho : PE X o (tD k ow fo)) (c : Cls X.K k.O) (hm : Meth X.K k.O m fn) (hr : Room lv X.A) (hb : Binds X.K fd ps [])
    (ht : eval (.Call (.Attribute o m apos) [] [] pos) X.env = (do
      let ov ← eval o X.env
      standAt apos.atName
      let (f, first) ← holding [ov] (getMethod ov m pl)
      callWith pos f first (backTo pos (starEach [] X.env)) (backToKw pos (keywordEach [] X.env))) := by rfl) :
    PE X (.Call (.Attribute o m apos) [] [] pos) (tD k ow (fMeth m gr fo)) :=
  pe_imp (pe_meth0 (E := E0) ho c hm G hr hb .nil passL ht) fun σ H Q ⟨me, H0, F, δ, d, ex, x, hf, q⟩ => by
  obtain ⟨d1, h1, h2⟩ := Option.bind_eq_some_iff.mp hf
  split at h2
  · rename_i kvs
    split at h2
    · rename_i hno
      refine ⟨me, H0, F, δ, _, ex, x, h1, fun v F1 H1 n1 r1 => ?_⟩
      cases id r1 with
      | own z r => exact ⟨_, _, _, rfl, n1.fh.e _ _ z, noF_lookup r hno, F1, _, .ok d, n1.fh, n1.h.ts x.tab, .cons r1 .nil, rfl, okOf_some h2, fun v F' H' n r => q v F' H' (n1.trans n) r⟩
    · cases h2
  · cases h2
/-- e.f, a property -/
def fProp (g : List PyData → Option Rs) (fo : Dt → Option PyData) : Dt → Option PyData := fun δ => (fo δ).bind fun d => match d with
  | .dict ((.none, .int 1) :: _) => okOf g [d]
  | _ => none
theorem d_prop (G : FnOk X.prog X.w X.K X.mg X.base (L2.CX X.prog X.w) lv g fd ps (spP k 1 gr)) (ho : PE X o (tD k ow fo)) (c : Cls X.K k.O) (hp : PropOf X.K k.O f p g) (hr : Room (lv + 1) X.A) (hb : Binds X.K fd ps []) (hx : Passes (L2.CX X.prog X.w) X.nox E0)
    (hab : attributeBase o f X.env (eval o X.env) = eval o X.env := by rfl) : PE X (.Attribute o f pos) (tD k ow (fProp gr fo)) :=
  pe_imp (pe_prop ho c hp G hr hb .nil hx hab) fun σ H Q ⟨me, H0, F, δ, d, ex, x, hf, q⟩ => by
  obtain ⟨d1, h1, h2⟩ := Option.bind_eq_some_iff.mp hf
  split at h2
  · refine ⟨me, H0, F, δ, _, ex, x, h1, fun v F1 H1 n1 r1 => ?_⟩
    cases id r1 with
    | own z r => exact ⟨_, _, _, rfl, n1.fh.e _ _ z, F1, _, .ok d, n1.fh, n1.h.ts x.tab, .cons r1 .nil, rfl, okOf_some h2, fun v F' H' n r => q v F' H' (n1.trans n) r⟩
  · cases h2
end

/-! ### fields of the instance that changes -/
section
variable {X : Cx} {fc : Fc} {o e : Expr} {f f2 : Str} {pos apos tpos pos' : Pos} {fa : Dt → Option PyData} {i : Nat} {st : Stmt}
def stFld (i : Nat) (f : Str) (fa : Dt → Option PyData) : Dt → Option Out := fun δ => match (δ[i]?).join, fa δ with
  | some (.dict ((.none, .int 1) :: kvs)), some d => if kvs.length < 1000 then some (.nx (δ.set i (some (tagO (putD f d kvs))))) else none
  | _, _ => none
theorem own_ins {k : Cl} {F H : Hp} {l : Addr} {kvs : List (PyData × PyData)} (o : Own k F H l (tagO kvs)) : F l = none ∧ ∃ dx fs, H l = some (.ins k.O dx fs) ∧ RpF k F fs kvs := by
  obtain ⟨z, ⟨_, _, _, _, e⟩ | ⟨dx, fs, kvs', h, r, e⟩⟩ := o
  · cases e
  · cases e
    exact ⟨z, dx, fs, h, r⟩
theorem ds_fld (ho : PE X o (tVar i)) (hv : PE X e (tD fc.k fc.ow fa)) (c : Cls X.K fc.k.O) (na : NoAttr X.K fc.k.O f) (hi : i ∈ fc.ow := by decide) (hs : swapsWith e (some (.Attribute o f pos')) pos.line X.env = pure false := by rfl) : PS X (.Assign [.Attribute o f pos'] e pos) (tS fc (stFld i f fa)) :=
  ps_imp (ps_fld ho hv hs) fun D σ H ⟨F, δ, out, b, x, s, hf, q⟩ => by
  unfold stFld at hf
  split at hf
  · rename_i kvs d h1 h2
    split at hf
    · rename_i hl
      cases hf
      have hd := vr_some h1
      obtain ⟨l, e1, e2, e3⟩ := x.own i _ hi hd
      refine ⟨fc.me, fc.H0, F, δ, d, b.fh, x, h2, fun v F1 H1 n1 r1 => ⟨_, e1, ?_⟩⟩
      obtain ⟨f1, dx, fs, z, rf⟩ := own_ins (e3.step n1)
      refine ⟨l, _, dx, fs, rfl, z, c, na, by rw [rf.length]; exact hl, ?_⟩
      have b1 := b.step n1
      have x1 := x.step n1
      exact q σ F1 _ (b1.put (e2.imp id fun w => w.2) f1 (e3.step n1).pl) n1.f (x1.putL (xs := []) hi hd e1 ⟨f1, .inr ⟨dx, _, _, upd_same, rf.put r1, rfl⟩⟩) s
    · cases hf
  · cases hf
/-- self.f += e -/
def stFldAdd (i : Nat) (f : Str) (fa : Dt → Option PyData) : Dt → Option Out := fun δ => match (δ[i]?).join, fa δ with
  | some (.dict ((.none, .int 1) :: kvs)), some (.int b) => (match getF f kvs with
    | some (.int a) => if kvs.length < 1000 then some (.nx (δ.set i (some (tagO (putD f (.int (a + b)) kvs))))) else none
    | _ => none)
  | _, _ => none
theorem ds_fldadd (ho : PE X o (tVar i)) (hv : PE X e (tD fc.k fc.ow fa)) (c : Cls X.K fc.k.O) (na : NoAttr X.K fc.k.O f) (hi : i ∈ fc.ow := by decide) : PS X (.AugAssign (.Attribute o f tpos) .Add e pos) (tS fc (stFldAdd i f fa)) :=
  ps_imp (ps_fldaug ho hv in_add) fun D σ H ⟨F, δ, out, b, x, s, hf, q⟩ => by
  unfold stFldAdd at hf
  split at hf
  · rename_i kvs a2 h1 h2
    split at hf
    · rename_i a1 hg
      split at hf
      · rename_i hl
        cases hf
        have hd := vr_some h1
        obtain ⟨l, e1, e2, e3⟩ := x.own i _ hi hd
        obtain ⟨f0, dx, fs, z, rf⟩ := own_ins e3
        obtain ⟨v0, l0, r0⟩ := rf.lookup hg
        cases r0
        refine ⟨_, e1, l, _, dx, fs, _, rfl, z, c, na, l0, fc.me, fc.H0, F, δ, _, b.fh, x, h2, fun v F1 H1 n1 r1 => ?_⟩
        cases r1
        obtain ⟨f1, dx1, fs1, z1, rf1⟩ := own_ins (e3.step n1)
        refine ⟨_, _, rfl, rfl, dx1, fs1, z1, by rw [rf1.length]; exact hl, ?_⟩
        have b1 := b.step n1
        have x1 := x.step n1
        exact q σ F1 _ (b1.put (e2.imp id fun w => w.2) f1 (e3.step n1).pl) n1.f (x1.putL (xs := []) hi hd e1 ⟨f1, .inr ⟨dx1, _, _, upd_same, rf1.put (.int _), rfl⟩⟩) s
      · cases hf
    · cases hf
  · cases hf
/-- self.f, self.g = e -/
def gFldT (K : PySem.W.Frag) (to : TE) (f : Str) : TG := fun y σ H Q => to σ H fun x H2 => ∃ a C dx fs, x = .ref a ∧ H2 a = some (.ins C dx fs) ∧ Cls K C ∧ NoAttr K C f ∧ fs.length < 1000 ∧ Q σ (upd H2 a (.ins C dx (putF f y fs)))
theorem pg_fldT {to : TE} (ho : PE X o to) : PG X (.Attribute o f pos) (gFldT X.K to f) := by
  refine ⟨fun pins s σ H v u Q I r h => PySem.W.kas_attr (thn (ho.run pins s σ H _ I h) fun ov s2 ⟨x, H2, I2, rx, a, C, dx, fs, ex, ea, c, n, l, q2⟩ => ?_)⟩
  subst ex
  obtain rfl : ov = Value.ref a := rx
  exact setattr_ok I2 ea c n l r fun s3 I3 => ⟨σ, _, I3, q2⟩
def stFld2 (i : Nat) (f g : Str) (fa : Dt → Option PyData) : Dt → Option Out := fun δ => match (δ[i]?).join, fa δ with
  | some (.dict ((.none, .int 1) :: kvs)), some (.tuple [d, d']) => if kvs.length < 900 then some (.nx (δ.set i (some (tagO (putD g d' (putD f d kvs)))))) else none
  | _, _ => none
theorem putF_len (f : Str) (v : V) : ∀ fs : List (Str × V), (putF f v fs).length ≤ fs.length + 1
  | [] => by simp [putF]
  | (m, u) :: r => by
    show (if m = f then (m, v) :: r else (m, u) :: putF f v r).length ≤ _
    split
    · simp
    · have := putF_len f v r
      simp
      omega
theorem ds_fld2 {o2 : Expr} {kk : Nat} {p1 p2 : Pos} (hc : X.calm = true) (ho : PE X o (tVar i)) (ho2 : PE X o2 (tVar i)) (hv : PE X e (tD fc.k fc.ow fa)) (c : Cls X.K fc.k.O) (na : NoAttr X.K fc.k.O f) (na2 : NoAttr X.K fc.k.O f2) (hi : i ∈ fc.ow := by decide)
    (h2 : (assignEach [.Attribute o f p1, .Attribute o2 f2 p2] X.env).map (·.2) = assign (.Attribute o f p1) X.env :: (assignEach [.Attribute o2 f2 p2] X.env).map (·.2) := by rfl) (h3 : (assignEach [.Attribute o2 f2 p2] X.env).map (·.2) = assign (.Attribute o2 f2 p2) X.env :: (assignEach [] X.env).map (·.2) := by rfl)
    (hn : (assignEach [.Attribute o f p1, .Attribute o2 f2 p2] X.env).length = 2 := by rfl) (hst : (assignEach [.Attribute o f p1, .Attribute o2 f2 p2] X.env).findIdx? (·.1) = none := by rfl)
    (hs : swapsWithSole [.Tuple [.Attribute o f p1, .Attribute o2 f2 p2] kk tpos] e pos.line X.env = pure false := by rfl) (hw : swappedStores [.Tuple [.Attribute o f p1, .Attribute o2 f2 p2] kk tpos] e X.env = pure none := by rfl)
    (h1 : (assignEach [.Tuple [.Attribute o f p1, .Attribute o2 f2 p2] kk tpos] X.env).map (·.2) = [assign (.Tuple [.Attribute o f p1, .Attribute o2 f2 p2] kk tpos) X.env] := by rfl) :
    PS X (.Assign [.Tuple [.Attribute o f p1, .Attribute o2 f2 p2] kk tpos] e pos) (tS fc (stFld2 i f f2 fa)) :=
  ps_imp (ps_asg hv (pg_tup hc (pgs_cons (pg_fldT ho) (pgs_cons (pg_fldT ho2) pgs_nil h3) h2) hn hst) hs hw h1) fun D σ H ⟨F, δ, out, b, x, s, hf, q⟩ => by
  unfold stFld2 at hf
  split at hf
  · rename_i kvs d d' h1 h2
    split at hf
    · rename_i hl
      cases hf
      have hd := vr_some h1
      obtain ⟨l, e1, e2, e3⟩ := x.own i _ hi hd
      refine ⟨fc.me, fc.H0, F, δ, _, b.fh, x, h2, fun v F1 H1 n1 r1 => ?_⟩
      cases r1 with
      | tup zt rt =>
        obtain ⟨u1, u2, rfl, t1, t2⟩ := rpa2 rt
        obtain ⟨f1, dx, fs, z, rf⟩ := own_ins (e3.step n1)
        refine ⟨_, _, rfl, SqT.of (n1.fh.e _ _ zt), rfl, u1, [u2], rfl, _, e1, l, _, dx, fs, rfl, z, c, na, by rw [rf.length]; omega, u2, [], rfl, _, e1, l, _, dx, _, rfl, upd_same, c, na2, ?_, rfl, ?_⟩
        · have := putF_len f u1 fs
          have := rf.length
          omega
        · have b1 := b.step n1
          have x1 := x.step n1
          have ee : upd (upd H1 l (.ins fc.k.O dx (putF f u1 fs))) l (.ins fc.k.O dx (putF f2 u2 (putF f u1 fs))) = upd H1 l (.ins fc.k.O dx (putF f2 u2 (putF f u1 fs))) := by
            funext a
            by_cases h : a = l
            · subst h; rw [upd_same, upd_same]
            · rw [upd_ne h, upd_ne h, upd_ne h]
          rw [ee]
          exact q σ F1 _ (b1.put (e2.imp id fun w => w.2) f1 (e3.step n1).pl) n1.f (x1.putL (xs := []) hi hd e1 ⟨f1, .inr ⟨dx, _, _, upd_same, (rf.put t1).put t2, rfl⟩⟩) s
    · cases hf
  · cases hf
end
end Dl
set_option Elab.async false
set_option linter.all false
set_option maxRecDepth 100000
set_option maxHeartbeats 4000000
/-! What is never reached; further calls of what changes; instances made; a freeze between statements. -/
namespace Dl
open PySem PySem.Spec PyProof.Rows L2

section
variable {X : Cx} {fc : Fc} {k : Cl} {ow : List Nat} {o e a b : Expr} {es : List Expr} {kws : List Keyword} {st : Stmt} {rest : List Stmt} {pos apos p : Pos} {f g : Dt → Option Out} {fa fb : Dt → Option PyData} {lv n i : Nat} {fn C : Addr} {fd : FuncData} {ps ks : List Str} {m x : Str}
/-! ### never reached -/
def noOut : Dt → Option Out := fun _ => none
theorem ds_dead : PS X st (tS fc noOut) := ⟨fun _ _ _ _ _ _ ⟨_, _, _, _, _, _, z, _⟩ => nomatch z⟩
theorem dss_dead : PSs X rest (tS fc noOut) := ⟨fun _ _ _ _ _ _ ⟨_, _, _, _, _, _, z, _⟩ => nomatch z⟩
def noD : Dt → Option PyData := fun _ => none
theorem d_dead : PE X e (tD k ow noD) := ⟨fun _ _ _ _ _ _ ⟨_, _, _, _, _, _, _, z, _⟩ => nomatch z⟩
/-! ### calls of what changes -/
section
variable {gr : List (PyData × PyData) → List PyData → Option Rm}
theorem spM_nil {k : Cl} {v : V} {vs : List V} {H : Hp} {Q : VK} {E : XK} (h : spM k n gr (v :: vs) H Q E) : spM k n gr (v :: (vs ++ [])) H Q E := by
  rw [List.append_nil]
  exact h
theorem e_meth0 {pl : Sem Bool} (G : FnOk X.prog X.w X.K X.mg X.base (L2.CX X.prog X.w) lv fn fd ps (spM fc.k n gr)) (tk : Takes X fun cls d _ H => fc.E cls d H) (ho : PE X o (tVar i)) (c : Cls X.K fc.k.O) (hm : Meth X.K fc.k.O m fn) (hr : Room lv X.A) (hb : Binds X.K fd ps []) (hi : i ∈ fc.ow := by decide)
    (ht : eval (.Call (.Attribute o m apos) [] [] pos) X.env = (do
      let ov ← eval o X.env
      standAt apos.atName
      let (f, first) ← holding [ov] (getMethod ov m pl)
      callWith pos f first (backTo pos (starEach [] X.env)) (backToKw pos (keywordEach [] X.env))) := by rfl) :
    PE X (.Call (.Attribute o m apos) [] [] pos) (tE fc (eMeth i m n gr aNil)) :=
  pe_imp (pe_meth0 ho c hm G hr hb .nil (passes_call tk fun _ _ _ _ h => h) ht) fun σ H Q h => by
  obtain ⟨v, a1, a, dx, fs, rfl, a2, a3, me, H0, F, δ, ds, b1, b2, b3, b4⟩ := meth_tE hi σ H Q h
  cases b3
  exact ⟨_, a1, a, dx, fs, rfl, a2, a3, spM_nil (b4 [] F H (.refl b1) .nil)⟩
/-- o.m(e, .., k = v, ..) -/
def tMethKw (C : Addr) (m : Str) (sp : Sp) (na nb : Nat) (E : XK) (ta : TE) (t tk : TA) : TE := fun σ H Q => ta σ H fun x H1 => ∃ a dx fs, x = .ref a ∧ H1 a = some (.ins C dx fs) ∧ fs.lookup m = none ∧ t σ H1 fun vs H2 => tk σ H2 fun zs H3 => sp (gA na nb (x :: vs) zs) H3 Q E
theorem pe_methKw {CX : CXT} {sp : Sp} {E : XK} {ta : TE} {t tk : TA} {pl : Sem Bool} (he : PE X o ta) (c : Cls X.K C) (hm : Meth X.K C m fn) (F : FnOk X.prog X.w X.K X.mg X.base CX lv fn fd ps sp) (hr : Room lv X.A) {na nb : Nat} (hb : KB X.K fd ps ks na nb) (hx : Passes CX X E) (ha : PA X (e :: es) t) (hkw : PK X kws tk)
    (hall : (backToKw pos (keywordEach kws X.env)).all (·.1.isSome) = true := by rfl) (hks : (backToKw pos (keywordEach kws X.env)).filterMap (·.1) = ks := by rfl)
    (hst : starEach (e :: es) X.env = (false, eval e X.env) :: starEach es X.env := by rfl) (hpl : ((backTo pos (starEach (e :: es) X.env)).any (·.1) || (backToKw pos (keywordEach kws X.env)).any (·.1.isNone)) = false := by rfl)
    (ht : eval (.Call (.Attribute o m apos) (e :: es) kws pos) X.env = (do
      let ov ← eval o X.env
      standAt apos.atName
      let (f, first) ← holding [ov] (getMethod ov m pl)
      callWith pos f first (backTo pos (starEach (e :: es) X.env)) (backToKw pos (keywordEach kws X.env))) := by rfl) :
    PE X (.Call (.Attribute o m apos) (e :: es) kws pos) (tMethKw C m sp na nb E ta t tk) := by
  refine ⟨fun pins s σ H Q I h => PySem.W.methodCall_KW (pl := pl) (thn (he.run pins s σ H _ I h) fun u s1 ⟨x, H1, I1, rx, a, dx, fs, ex, ea, l, q⟩ => ?_) ht⟩
  subst ex
  obtain rfl : u = Value.ref a := rx
  refine getmeth_ok I1 ea c hm l ?_
  refine PySem.W.callWith_KW (first := [.ref a]) (h₀ := X.base) I.ok.mod.kin hm.kp hall (thn (ha.run pos pins s1 σ H1 _ I1 q) fun us s2 ⟨vs, H2, I2, r, q2⟩ => ?_) hpl hst
  refine thn (hkw.run pos pins s2 σ H2 _ I2 q2) fun ws s3 ⟨zs, H3, I3, rz, q3⟩ => ⟨I3.kIn, ?_⟩
  rw [hks]
  exact run_fnk (us := .ref a :: us) (vs := .ref a :: vs) F hr hb hx I3 (.cons rfl r) rz q3
theorem e_methK {pl : Sem Bool} {fl fk : Dt → Option (List PyData)} (G : FnOk X.prog X.w X.K X.mg X.base (L2.CX X.prog X.w) lv fn fd ps (spM fc.k n gr)) (tk : Takes X fun cls d _ H => fc.E cls d H) (ho : PE X o (tVar i)) (c : Cls X.K fc.k.O) (hm : Meth X.K fc.k.O m fn) (hr : Room lv X.A) {na nb : Nat} (hb : KB X.K fd ps ks (na + 1) nb) (ha : PA X (e :: es) (tDA fc.k fc.ow fl)) (hkw : PK X kws (tDA fc.k fc.ow fk)) (hi : i ∈ fc.ow := by decide)
    (hall : (backToKw pos (keywordEach kws X.env)).all (·.1.isSome) = true := by rfl) (hks : (backToKw pos (keywordEach kws X.env)).filterMap (·.1) = ks := by rfl)
    (hst : starEach (e :: es) X.env = (false, eval e X.env) :: starEach es X.env := by rfl) (hpl : ((backTo pos (starEach (e :: es) X.env)).any (·.1) || (backToKw pos (keywordEach kws X.env)).any (·.1.isNone)) = false := by rfl)
    (ht : eval (.Call (.Attribute o m apos) (e :: es) kws pos) X.env = (do
      let ov ← eval o X.env
      standAt apos.atName
      let (f, first) ← holding [ov] (getMethod ov m pl)
      callWith pos f first (backTo pos (starEach (e :: es) X.env)) (backToKw pos (keywordEach kws X.env))) := by rfl) :
    PE X (.Call (.Attribute o m apos) (e :: es) kws pos) (tE fc (eMeth i m n gr (aCat na nb fl fk))) :=
  pe_imp (pe_methKw ho c hm G hr hb (passes_call tk fun _ _ _ _ h => h) ha hkw hall hks hst hpl ht) fun σ H Q h => by
  obtain ⟨v, a1, a, dx, fs, rfl, a2, a3, me, H0, F, δ, ds, b1, b2, b3, b4⟩ := meth_tE hi σ H Q h
  obtain ⟨l1, l2, h3, h5, la, lb, rfl⟩ := aCat_some b3
  exact ⟨_, a1, a, dx, fs, rfl, a2, a3, me, H0, F, δ, l1, b1, b2, h3, fun vs F1 H1 n1 r1 => ⟨me, H0, F1, δ, l2, n1.fh, b2.step n1, h5, fun zs F2 H2 n2 r2 => by
    have e : gA (na + 1) nb (V.ref a :: vs) zs = V.ref a :: (vs ++ zs) := gA_eq (by rw [List.length_cons, r1.length, la]) (r2.length.trans lb)
    show spM fc.k n gr (gA (na + 1) nb (V.ref a :: vs) zs) H2 Q fc.E
    rw [e]
    exact b4 _ F2 H2 (n1.trans n2) ((r1.mono n2.f).append r2)⟩⟩
/-- f(o, ..), o's object may change -/
theorem e_callO {fl : Dt → Option (List PyData)} (G : FnOk X.prog X.w X.K X.mg X.base (L2.CX X.prog X.w) lv fn fd ps (spM fc.k n gr)) (tk : Takes X fun cls d _ H => fc.E cls d H) (ho : PE X o (tVar i)) (hr : Room lv X.A) (hg : Gl X x) (hm : X.mg x = some (.ref fn)) (hk : PySem.W.keepIn X.K (.ref fn) = true) (hb : Binds X.K fd ps []) (ha : PA X es (tDA fc.k fc.ow fl)) (hi : i ∈ fc.ow := by decide)
    (hdb : (x == ("__debug__" : Str)) = false := by decide) (he : starEach (o :: es) X.env = (false, eval o X.env) :: starEach es X.env := by rfl) (hpl : (backTo pos (starEach es X.env)).any (·.1) = false := by rfl) :
    PE X (.Call (.Name x p) (o :: es) [] pos) (tE fc (eMeth i "" n gr fl)) :=
  pe_imp (pe_call G hr hg hm hk hb .nil (passes_call tk fun _ _ _ _ h => h) (pa_cons ho ha he) hdb he hpl) fun σ H Q h => by
  obtain ⟨v, a1, a, dx, fs, rfl, a2, a3, me, H0, F, δ, ds, b1, b2, b3, b4⟩ := meth_tE hi σ H Q h
  exact ⟨_, a1, me, H0, F, δ, ds, b1, b2, b3, fun vs F1 H1 n1 r1 => spM_nil (b4 vs F1 H1 n1 r1)⟩
end
/-! ### instances made -/
def plainK : List (PyData × PyData) → Bool
  | [] => true
  | (_, d) :: r => plain d && plainK r
mutual
theorem Rp.to {k k' : Cl} {F : Hp} : ∀ {v : V} {d : PyData}, Rp k F v d → plain d = true → Rp k' F v d
  | _, _, .non, _ => .non
  | _, _, .bl b, _ => .bl b
  | _, _, .int i, _ => .int i
  | _, _, .str x, _ => .str x
  | _, _, .lst h r, p => .lst h (RpA.to r (by simpa [plain] using p))
  | _, _, .tup h r, p => .tup h (RpA.to r (by simpa [plain] using p))
  | _, _, .ins _ _, p => by simp [plain] at p
  | _, _, .own _ _, p => by simp [plain] at p
  | _, _, .err _ _, p => by simp [plain] at p
theorem RpA.to {k k' : Cl} {F : Hp} : ∀ {vs : List V} {ds : List PyData}, RpA k F vs ds → plainAll ds = true → RpA k' F vs ds
  | _, _, .nil, _ => .nil
  | _, _, .cons h r, p => by
    rw [plainAll, Bool.and_eq_true] at p
    exact .cons (Rp.to h p.1) (RpA.to r p.2)
end
theorem RpF.to {k k' : Cl} {F : Hp} : ∀ {fs : List (Str × V)} {kvs : List (PyData × PyData)}, RpF k F fs kvs → plainK kvs = true → RpF k' F fs kvs
  | _, _, .nil, _ => .nil
  | _, _, .cons h r, p => by
    rw [plainK, Bool.and_eq_true] at p
    exact .cons (h.to p.1) (RpF.to r p.2)
theorem made_gr {T : Tb} {H : Hp} {x dx C : Addr} (hx : H x = none) (hd : H dx = none) : Gr T H (upd (upd H dx (.own x)) x (.ins C dx [])) := by
  by_cases h : dx = x
  · subst h
    have e : upd (upd H dx (.own dx)) dx (.ins C dx []) = upd H dx (.ins C dx []) := by
      funext a
      by_cases z : a = dx
      · subst z; rw [upd_same, upd_same]
      · rw [upd_ne z, upd_ne z, upd_ne z]
    rw [e]
    exact Gr.new hx
  · exact (Gr.new hd).mut hx fun u z => by
      rw [upd_ne (Ne.symm h), hx] at z
      cases z
theorem made_nx {T : Tb} {F H F2 H2 : Hp} {x dx C : Addr} (e : FIn F H) (hx : H x = none) (hd : H dx = none) (b : Bx T (some x) F (upd (upd H dx (.own x)) x (.ins C dx [])) F2 H2) (f2 : F2 x = none) : Nx T F H F2 H2 := by
  have up : ∀ a u, H a = some u → some x ≠ some a ∧ upd (upd H dx (.own x)) x (.ins C dx []) a = some u := fun a u q => by
    have n1 := ne_of_none q hx
    have n2 := ne_of_none q hd
    exact ⟨fun z => n1 (Option.some.inj z).symm, by rw [upd_ne n1, upd_ne n2]; exact q⟩
  exact ⟨⟨fun a u q nt => b.h a u (up a u q).2 (up a u q).1 nt, fun a ps q => b.tb a ps (up a _ q).2 (up a _ q).1, fun t => b.ts ((made_gr hx hd).ts t)⟩, b.f, b.fh, fun a u q n => b.fr a u (up a u q).2 n⟩
/-- the classes with S as what changes -/
def Cl.sw (k : Cl) : Cl := ⟨k.O, k.S, k.ec, none, k.T⟩
def mkS (n : Nat) (gr : List (PyData × PyData) → List PyData → Option Rm) : List PyData → Option PyData := fun ds => if ds.length + 1 = n ∧ plainAll ds = true then (match gr [] ds with
  | some (.ok .none kvs) => if plainK kvs = true then some (tagS kvs) else none
  | _ => none) else none
theorem fresh_ext {F H : Hp} {x dx C : Addr} (e : FIn F H) (hx : H x = none) (hd : H dx = none) : FIn F (upd (upd H dx (.own x)) x (.ins C dx [])) := (e.mut (e.back hd)).mut (e.back hx)
theorem mk_run {k : Cl} {gr : List (PyData × PyData) → List PyData → Option Rm} {F H : Hp} {vs : List V} {ds : List PyData} {kvs : List (PyData × PyData)} {x dx : Addr} {Q : VK} {E : XK} (e : FIn F H) (tb : LamX.Tabs k.T H) (hx : H x = none) (hd : H dx = none) (r : RpA k F vs ds) (hl : ds.length + 1 = n) (hg : gr [] ds = some (.ok .none kvs))
    (q : ∀ F2 H2 dx fs, Nx k.T F H F2 H2 → F2 x = none → H2 x = some (.ins k.O dx fs) → RpF k F2 fs kvs → Q .non H2) :
    spM k n gr (.ref x :: vs) (upd (upd H dx (.own x)) x (.ins k.O dx [])) Q E := by
  refine ⟨F, x, dx, [], [], vs, ds, _, rfl, fresh_ext e hx hd, (made_gr hx hd).ts tb, e.back hx, upd_same, .nil, r, hl, hg, fun v F2 H2 b ow rn => ?_⟩
  obtain ⟨f2, dx2, fs2, z2, rf2⟩ := own_ins ow
  cases rn
  exact q F2 H2 dx2 fs2 (made_nx e hx hd b f2) f2 z2 rf2
section
variable {gr : List (PyData × PyData) → List PyData → Option Rm}
theorem d_mkS {fl : Dt → Option (List PyData)} (M : L2.Mk X.K k.S fn) (G : FnOk X.prog X.w X.K X.mg X.base (L2.CX X.prog X.w) lv fn fd ps (spM k.sw n gr)) (hr : Room (lv + 1) X.A) (hg : Gl X x) (hm : X.mg x = some (.ref k.S)) (hb : Binds X.K fd ps []) (ha : PA X (e :: es) (tDA k ow fl))
    (hdb : (x == ("__debug__" : Str)) = false := by decide) (he : starEach (e :: es) X.env = (false, eval e X.env) :: starEach es X.env := by rfl) (hpl : (backTo pos (starEach es X.env)).any (·.1) = false := by rfl) :
    PE X (.Call (.Name x p) (e :: es) [] pos) (tD k ow (bA (mkS n gr) fl)) :=
  pe_imp (pe_make (E := E0) M G hr hg hm hb .nil passL ha hdb he hpl) fun σ H Q ⟨me, H0, F, δ, d, ex, xx, hf, q⟩ => by
  obtain ⟨ds, h1, h2⟩ := Option.bind_eq_some_iff.mp hf
  unfold mkS at h2
  split at h2
  · rename_i hc
    split at h2
    · rename_i kvs hgr
      split at h2
      · rename_i hpk
        cases h2
        refine ⟨me, H0, F, δ, ds, ex, xx, h1, fun vs F1 H1 n1 r1 y dy hy hdy ne => ?_⟩
        rw [List.append_nil]
        refine mk_run (k := k.sw) n1.fh (n1.h.ts xx.tab) hy hdy (r1.to hc.2) hc.1 hgr fun F2 H2 dx fs n2 f2 z2 rf2 => ⟨rfl, ?_⟩
        have n := n1.trans n2
        refine q _ (upd F2 y (.ins k.S dx fs)) H2 ⟨n.h, n.f.trans (Ext.new f2), n.fh.add z2, fun a u h w => ?_⟩ (.ins upd_same ((rf2.mono (Ext.new f2)).to hpk))
        obtain ⟨o', h'⟩ := n1.h.there h
        rw [upd_ne (ne_of_none h' hy)]
        exact n.fr a u h w
      · cases h2
    · cases h2
  · cases h2
/-- any new object that changes, in a slot of ow -/
theorem Sl.setO {k : Cl} {me : Option Addr} {H0 F H F' H' : Hp} {ow : List Nat} {σ : L2.St} {δ : Dt} {i : Nat} {l : Addr} {d : PyData} (x : Sl k me H0 F H ow σ δ) (n : Nx k.T F H F' H') (hi : i ∈ ow) (h0 : H0 l = none) (hl : H l = none) (o : Own k F' H' l d) :
    Sl k me H0 F' H' ow (σ.set i (some (.ref l))) (δ.set i (some d)) := by
  have y := x.step n
  have key : ∀ {j : Nat} {u : PyData}, j ≠ i → (δ.set i (some d))[j]? = some (some u) → δ[j]? = some (some u) ∧ (σ.set i (some (.ref l)))[j]? = σ[j]? := fun {j u} h e => by
    rw [List.getElem?_set_ne h.symm] at e ⊢
    exact ⟨e, rfl⟩
  have at_ : ∀ {u : PyData}, (δ.set i (some d))[i]? = some (some u) → u = d ∧ (σ.set i (some (V.ref l)))[i]? = some (some (.ref l)) := fun {u} e => by
    by_cases hl : i < δ.length
    · rw [List.getElem?_set_self hl] at e
      cases e
      exact ⟨rfl, List.getElem?_set_self (by rw [x.len]; exact hl)⟩
    · rw [List.getElem?_eq_none (by rw [List.length_set]; omega)] at e
      cases e
  have far : ∀ {j : Nat} {u : PyData}, j ∈ ow → δ[j]? = some (some u) → σ[j]? ≠ some (some (.ref l)) := fun {j u} hj e z => by
    obtain ⟨l', e1, _, e2⟩ := x.own j u hj e
    rw [z] at e1
    cases e1
    obtain ⟨u2, e3⟩ := e2.there
    rw [hl] at e3
    cases e3
  refine ⟨by rw [List.length_set, List.length_set]; exact x.len, fun j u hj e => ?_, fun j u hj e => ?_, fun j m a b hj hm ne e1 e2 => ?_, y.tab⟩
  · have h : j ≠ i := fun z => hj (z ▸ hi)
    obtain ⟨k1, k2⟩ := key h e
    rw [k2]
    exact y.fz j u hj k1
  · by_cases h : j = i
    · subst h
      obtain ⟨rfl, k2⟩ := at_ e
      exact ⟨l, k2, .inl h0, o⟩
    · obtain ⟨k1, k2⟩ := key h e
      rw [k2]
      exact y.own j u hj k1
  · by_cases h : j = i
    · subst h
      obtain ⟨_, k2⟩ := at_ e1
      obtain ⟨m1, m2⟩ := key (Ne.symm ne) e2
      rw [k2, m2]
      exact (far hm m1).symm
    · obtain ⟨k1, k2⟩ := key h e1
      by_cases h2 : m = i
      · subst h2
        obtain ⟨_, m2⟩ := at_ e2
        rw [k2, m2]
        exact far hj k1
      · obtain ⟨m1, m2⟩ := key h2 e2
        rw [k2, m2]
        exact x.ne j m a b hj hm ne k1 m1
def mkO (n : Nat) (gr : List (PyData × PyData) → List PyData → Option Rm) : List PyData → Option PyData := fun ds => if ds.length + 1 = n then (match gr [] ds with
  | some (.ok .none kvs) => some (tagO kvs)
  | _ => none) else none
/-- x = C(e, ..), an instance that changes -/
theorem ds_newO {fl : Dt → Option (List PyData)} {y : Str} {py spos : Pos} (hN : X.N.Nodup) (hyi : X.N[i]? = some y) (hyl : Loc X.env.scope y) (M : L2.Mk X.K fc.k.O fn) (G : FnOk X.prog X.w X.K X.mg X.base (L2.CX X.prog X.w) lv fn fd ps (spM fc.k n gr)) (hr : Room (lv + 1) X.A) (hg : Gl X x) (hm : X.mg x = some (.ref fc.k.O)) (hb : Binds X.K fd ps []) (ha : PA X (e :: es) (tDA fc.k fc.ow fl))
    (hi : i ∈ fc.ow := by decide) (h0 : i ≠ 0 ∨ fc.me = none := by first | exact .inl (by decide) | exact .inr rfl)
    (hdb : (x == ("__debug__" : Str)) = false := by decide) (he : starEach (e :: es) X.env = (false, eval e X.env) :: starEach es X.env := by rfl) (hpl : (backTo pos (starEach es X.env)).any (·.1) = false := by rfl)
    (hs : swapsWith (.Call (.Name x p) (e :: es) [] pos) (some (.Name y py)) spos.line X.env = pure false := by rfl) (hfn : X.fn y = true ∨ X.env.scope.names.lookup y = some .local := by first | exact .inl rfl | exact .inr rfl | assumption) :
    PS X (.Assign [.Name y py] (.Call (.Name x p) (e :: es) [] pos) spos) (tS fc (stSet i (bA (mkO n gr) fl))) :=
  ps_imp (ps_set hN hyi hyl (pe_make (E := E0) M G hr hg hm hb .nil passL ha hdb he hpl) hs hfn) fun D σ H ⟨F, δ, out, b, xx, s, hf, q⟩ => by
  obtain ⟨d, h0', rfl⟩ := Option.map_eq_some_iff.mp hf
  obtain ⟨ds, h1, h2⟩ := Option.bind_eq_some_iff.mp h0'
  unfold mkO at h2
  split at h2
  · rename_i hc
    split at h2
    · rename_i kvs hgr
      cases h2
      refine ⟨fc.me, fc.H0, F, δ, ds, b.fh, xx, h1, fun vs F1 H1 n1 r1 z dz hz hdz ne => ?_⟩
      rw [List.append_nil]
      have b1 := b.step n1
      refine mk_run n1.fh (n1.h.ts xx.tab) hz hdz r1 hc hgr fun F2 H2 dx fs n2 f2 z2 rf2 => ⟨rfl, q _ F2 H2 (b1.step n2) (n1.f.trans n2.f) ((xx.step n1).setO n2 hi (b1.new hz) hz ⟨f2, .inr ⟨dx, fs, kvs, z2, rf2, rfl⟩⟩) (s.setN h0)⟩
    · cases h2
  · cases h2
end
/-! ### a freeze between statements -/
def noNx (f : Dt → Option Out) : Dt → Option Out := fun δ => (f δ).bind fun o => match o with
  | .rt d δ' => some (.rt d δ')
  | .ex c δ' => some (.ex c δ')
  | _ => none
theorem Sl.frzTo {k : Cl} {me : Option Addr} {H0 F H : Hp} {ow ow' : List Nat} {σ : L2.St} {δ : Dt} (ex : FIn F H) (x : Sl k me H0 F H ow σ δ) (sub : ∀ i ∈ ow', i ∈ ow) (keep0 : 0 ∈ ow → 0 ∈ ow') :
    Sl k me H0 (fzH F H (OwnA (ow.filter fun i => !decide (i ∈ ow')) σ δ)) H ow' σ δ := by
  have y : Sl k me H0 F H (ow.filter fun i => !decide (i ∈ ow')) σ δ → True := fun _ => trivial
  let P := OwnA (ow.filter fun i => !decide (i ∈ ow')) σ δ
  have inP : ∀ {i d l}, i ∈ ow → i ∉ ow' → δ[i]? = some (some d) → σ[i]? = some (some (.ref l)) → P l := fun {i d l} h1 h2 h3 h4 => ⟨i, d, List.mem_filter.mpr ⟨h1, by simpa using h2⟩, h3, h4⟩
  have e1 : Ext F (fzH F H P) := fun a o h => by
    by_cases z : P a
    · obtain ⟨i, d, h1, h2, h3⟩ := z
      obtain ⟨l, q1, _, q2⟩ := x.own i d (List.mem_filter.mp h1).1 h2
      rw [h3] at q1
      cases q1
      rw [q2.1] at h
      cases h
    · rw [fzH_no z]; exact h
  refine ⟨x.len, fun i d hi h => ?_, fun i d hi h => ?_, fun i j a b hi hj => x.ne i j a b (sub i hi) (sub j hj), x.tab⟩
  · by_cases ho : i ∈ ow
    · obtain ⟨l, a1, a2, a3⟩ := x.own i d ho h
      have hp : P l := inP ho hi h a1
      refine ⟨_, a1, ?_⟩
      rcases a3.2 with ⟨xs, ds, z, r, rfl⟩ | ⟨dx, fs, kvs, z, r, rfl⟩
      · exact .lst (by show fzH F H P l = _; rw [fzH_yes hp]; exact z) (r.mono e1)
      · exact .own (by show fzH F H P l = _; rw [fzH_yes hp]; exact z) (r.mono e1)
    · obtain ⟨v, a1, a2⟩ := x.fz i d ho h
      exact ⟨v, a1, a2.mono e1⟩
  · obtain ⟨l, a1, a2, a3⟩ := x.own i d (sub i hi) h
    have hp : ¬ P l := fun ⟨j, u, h1, h2, h3⟩ => by
      obtain ⟨q1, q2⟩ := List.mem_filter.mp h1
      have nj : j ∉ ow' := by simpa using q2
      exact x.ne i j d u (sub i hi) q1 (fun z => nj (z ▸ hi)) h h2 (by rw [a1, h3])
    refine ⟨l, a1, a2, by rw [fzH_no hp]; exact a3.1, ?_⟩
    rcases a3.2 with ⟨xs, ds, z, r, e⟩ | ⟨dx, fs, kvs, z, r, e⟩
    · exact .inl ⟨xs, ds, z, r.mono e1, e⟩
    · exact .inr ⟨dx, fs, kvs, z, r.mono e1, e⟩
theorem dss_frz (ow' : List Nat) (h : PSs X rest (tS { fc with ow := ow' } f)) (sub : ∀ i ∈ ow', i ∈ fc.ow := by decide) (keep0 : 0 ∈ fc.ow → 0 ∈ ow' := by decide) : PSs X rest (tS fc (noNx f)) := pss_imp h fun D σ H ⟨F, δ, o, b, x, s, hf, q⟩ => by
  obtain ⟨o1, h1, h2⟩ := Option.bind_eq_some_iff.mp hf
  let P := OwnA (fc.ow.filter fun i => !decide (i ∈ ow')) σ δ
  have e1 : Ext F (fzH F H P) := fun a u h => by
    by_cases z : P a
    · obtain ⟨i, d, h1, h2, h3⟩ := z
      obtain ⟨l, q1, _, q2⟩ := x.own i d (List.mem_filter.mp h1).1 h2
      rw [h3] at q1
      cases q1
      rw [q2.1] at h
      cases h
    · rw [fzH_no z]; exact h
  have b' : Bx fc.k.T fc.me fc.F0 fc.H0 (fzH F H P) H := by
    refine ⟨b.h, b.tb, b.ts, b.f.trans e1, ⟨fun a u h => ?_, fun a ps h => ?_⟩, fun a u e n => ?_, b.mt⟩
    · by_cases z : P a
      · rw [fzH_yes z] at h; exact h
      · rw [fzH_no z] at h; exact b.fh.e a u h
    · by_cases z : P a
      · rw [fzH_yes z] at h
        obtain ⟨i, d, h1, h2, h3⟩ := z
        obtain ⟨l, q1, _, q2⟩ := x.own i d (List.mem_filter.mp h1).1 h2
        rw [h3] at q1
        cases q1
        exact q2.nt ps h
      · rw [fzH_no z] at h; exact b.fh.nf a ps h
    · have no : ¬ P a := fun ⟨i, d, i1, i2, i3⟩ => by
        obtain ⟨j1, j2⟩ := List.mem_filter.mp i1
        have ni : i ∉ ow' := by simpa using j2
        obtain ⟨l, e1, e2, _⟩ := x.own i d j1 i2
        rw [i3] at e1
        cases e1
        rcases e2 with e2 | ⟨z, _⟩
        · rw [e] at e2; cases e2
        · subst z
          exact ni (keep0 j1)
      rw [fzH_no no]
      exact b.fr a u e n
  refine ⟨fzH F H P, δ, o1, b', x.frzTo b.fh sub keep0, fun p hm => ⟨keep0 (s p hm).1, (s p hm).2⟩, h1, ?_⟩
  cases o1 with
  | rt d δ' => cases h2; exact q
  | ex c δ' => cases h2; exact q
  | nx δ' => cases h2
  | bk δ' => cases h2
  | ct δ' => cases h2
/-! ### e == d and t, where e changes something -/
def eCmp (g : PyData → PyData → Option PyData) (fe : Dt → Option Er) (fb : Dt → Option PyData) : Dt → Option Er := fun δ => (fe δ).bind fun r => match r with
  | .ok d δ' => (fb δ').bind fun y => (g d y).map fun z => .ok z δ'
  | .ex c δ' => some (.ex c δ')
theorem e_cmp {op : CmpOp} {r : R2} {g : PyData → PyData → Option PyData} {fe : Dt → Option Er} (ho : OpR X (compareOp op) r) (o : Op2 fc.k r g) (ha : PE X a (tE fc fe)) (hb : PE X b (tD fc.k fc.ow fb)) (hm : behindInMarks op b = false) : PE X (.Compare a [op] [b] pos) (tE fc (eCmp g fe fb)) :=
  pe_imp (pe_cmpR ho ha hb hm) fun σ H Q ⟨F, δ, r, bx, x, s, hf, q⟩ => by
  obtain ⟨r1, h1, h2⟩ := Option.bind_eq_some_iff.mp hf
  refine ⟨F, δ, r1, bx, x, s, h1, ?_⟩
  cases r1 with
  | ok d δ' =>
    obtain ⟨y, h3, h4⟩ := Option.bind_eq_some_iff.mp h2
    obtain ⟨z, h5, rfl⟩ := Option.map_eq_some_iff.mp h4
    exact fun v F1 H1 b1 e1 x1 r1 => ⟨fc.me, fc.H0, F1, δ', y, b1.fh, x1, h3, fun u F2 H2 n2 r2 => o F2 H2 v u d y z Q n2.fh (r1.mono n2.f) r2 h5 fun w F3 H3 n3 r3 => q w F3 H3 (b1.step (n2.trans n3)) (e1.trans (n2.trans n3).f) (x1.step (n2.trans n3)) r3⟩
  | ex c δ' => cases h2; exact q
def eAnd (fe : Dt → Option Er) (fb : Dt → Option PyData) : Dt → Option Er := fun δ => (fe δ).bind fun r => match r with
  | .ok (.bool true) δ' => (fb δ').map fun z => .ok z δ'
  | .ok (.bool false) δ' => some (.ok (.bool false) δ')
  | .ok _ _ => none
  | .ex c δ' => some (.ex c δ')
theorem e_and {rst : List Expr} {fe : Dt → Option Er} (ha : PE X a (tE fc fe)) (hb : PE X (.BoolOp .And (b :: rst) pos) (tD fc.k fc.ow fb)) : PE X (.BoolOp .And (a :: b :: rst) pos) (tE fc (eAnd fe fb)) :=
  pe_imp (pe_and ha hb) fun σ H Q ⟨F, δ, r, bx, x, s, hf, q⟩ => by
  obtain ⟨r1, h1, h2⟩ := Option.bind_eq_some_iff.mp hf
  refine ⟨F, δ, r1, bx, x, s, h1, ?_⟩
  cases r1 with
  | ok d δ' =>
    refine fun v F1 H1 b1 e1 x1 r1 => ?_
    cases r1 with
    | bl c =>
      cases c with
      | true =>
        obtain ⟨z, h3, rfl⟩ := Option.map_eq_some_iff.mp h2
        exact ⟨true, rfl, ite2 (fun _ => ⟨fc.me, fc.H0, F1, δ', z, b1.fh, x1, h3, fun v F2 H2 n2 r2 => q v F2 H2 (b1.step n2) (e1.trans n2.f) (x1.step n2) r2⟩) (fun z => absurd rfl z)⟩
      | false =>
        cases h2
        exact ⟨false, rfl, ite2 (fun z => nomatch z) (fun _ => q _ F1 H1 b1 e1 x1 (.bl false))⟩
    | _ => cases h2
  | ex c δ' => cases h2; exact q
end
end Dl
set_option Elab.async false
set_option linter.all false
set_option maxRecDepth 100000
set_option maxHeartbeats 4000000
/-! Errors of own classes over ValueError whose __init__ says super().__init__(text). -/
namespace PySem
namespace SkyX
open PySem.W PySem.Calls PyProof.Rows PySem.HandSPX
/-- what the written part says of such a class -/
structure SkyC (P : Program) (K : Frag) (C fI : Addr) (qual : Str) (params : Arguments) (body : List Stmt) (scope : Scope) : Prop where
  cls : ∃ nm q N bs bm sn sub ab col dd k0 k1 k2 k3 k5, K.lookup C = some (excClassObj nm q C N bs bm true sn sub ab col dd k0 k1 k2 k3 k5 "ValueError.__new__") ∧ refsVE bm = true
  sup : ks_superIn K C C "__init__" = some (some (.builtin "ValueError.__init__"))
  ini : findIn K (.ref C) "__init__" = some (some (.ref fI))
  tfn : typeIn K (.ref fI) = some (.type "function")
  kC : keepIn K (.ref C) = true
  exC : subIn K (.ref C) (.type "BaseException") = some true
  veC : subIn K (.ref C) (.type "ValueError") = some true
  tyC : typeIn K (.ref C) = some (.type "type")
  self : mroIn K C (.ref C) = some true
  op : nsIn K cStatics "thirdparty.any" = some none
  fn : ∃ (oc : Value) (od : Option Addr) (kV doc pm : Value) (an : Option Addr) (cda : Addr) (ct : Value) (osl : Array (Option Value)) (cc : Addr),
    K.lookup fI = some ⟨oc, od, .func (ksFn "__init__" qual params body scope .none kV doc pm an (.ref cda) ct cc), osl⟩ ∧ codeIn K (.ref cda) qual = true ∧
    (∃ cl cld csl, K.lookup cc = some ⟨cl, cld, .cell (some (.ref C)), csl⟩) ∧ ∃ ccl cdd vs ccs file tf, K.lookup cda = some ⟨ccl, cdd, .fields vs, ccs⟩ ∧ vs[2]? = some (.str file tf) ∧ ((P.main.file : Str) == file) = true
section
variable {prog : Program} {w : World} {A : Around} {E : Value → Shared → Prop} {h : Heap} {g : Array GenState} {d : Drawn} {t : Nat} {os : OsState}
variable {nm q : Str} {C N : Addr} {bs bm : List Value} {hdct : Bool} {sn : List Str} {sub : List Value} {ab : Bool} {col : Option Bool} {dd : Option Addr} {k0 k1 k2 k3 k5 : Option Value}
/-- the bound built-in __init__ is called -/
theorem call_mw {u x t0 : Addr} {us : List Value} {Q : Value → Shared → Prop} (hC : h.get? C = some (excClassObj nm q C N bs bm hdct sn sub ab col dd k0 k1 k2 k3 k5 "ValueError.__new__"))
    (hx : h.get? x = some (excO C t0)) (hu : h.get? u = some (kxs_mw "ValueError.__init__" x)) (hz : us.length ≤ sizeLine)
    (fin : ∀ h' t1, (∀ b o, b ≠ x → h.get? b = some o → h'.get? b = some o) → h'.get? x = some (excO C t1) → Q .none ⟨h', g, d, t, os⟩) : wpAny (model prog w) A (call (.ref u) us) Q E ⟨h, g, d, t, os⟩ := by
  refine wpAny_call (codeAny_of_tree ?_)
  show wpAny _ A.in1 (callAny (.ref u) ⟨us, []⟩) _ _ ⟨h, g, d, t, os⟩
  simp only [callAny]
  refine wpAny_bind (wpAny_load hu ?_)
  have isMw : (Value.type "method-wrapper" == Value.type "method" || Value.type "method-wrapper" == Value.type "builtin_function_or_method" || Value.type "method-wrapper" == Value.type "method-wrapper") = true := by decide
  simp only [kxs_mw, isMw, if_true]
  refine KFB.if_so (by decide) (wpAny_bind (check_bound_init F.excBase_ValueError.toExcCallFacts hC hx rfl ?_))
  refine wpAny_bind (wpAny_pure (wpAny_pure ⟨plainId_quiet F.excBase_ValueError.init.plain _, codeAny_builtin F.excBase_ValueError.initEntry ?_⟩))
  exact exc_init_tree (cls := .ref C) (t0 := t0) (dv := none) (c2 := .none) (c3 := .none) (b4 := .bool false) hx hz fun h' k e _ => fin h' _ k e
end
section
variable {P : Program} {w : World} {A : Around} {K : Frag} {C fI : Addr} {qual : Str} {params : Arguments} {body : List Stmt} {scope : Scope} {mg : Str → Option Value} {base : Heap}
/-- super().__init__(text), the first statement of the body at its entry; then the rest -/
theorem sup_init {rest : List Stmt} {txt : Str} {kk : Nat} {p0 p1 p2 p3 p4 p5 : Pos} {ar : Arg} {us : List Value} {R : Result → Shared → Prop} (T : SkyC P K C fI qual params body scope) (Mo : L2.Mod K mg base) (hmg : mg "super" = none) (htop : (P.main.scope.names.lookup ("super" : Str)).isSome = false)
    (hbody : body = .Expr (.Call (.Attribute (.Call (.Name "super" p0) [] [] p1) "__init__" p2) [.Constant (.str txt) kk p3] [] p4) p5 :: rest)
    (hpar : (params.posonlyargs ++ params.args).head? = some ar) (hks : scope.names.lookup ("super" : Str) = some .globalImplicit) (hkc : scope.names.lookup ("__class__" : Str) = some .free) (hka : scope.names.lookup ar.arg = some .local) (hkf : scope.kind = .function)
    {pl : Env → Sem Bool} (ht : ∀ env : Env, eval (.Call (.Attribute (.Call (.Name "super" p0) [] [] p1) "__init__" p2) [.Constant (.str txt) kk p3] [] p4) env = (do
      let ov ← attributeBase (.Call (.Name "super" p0) [] [] p1) "__init__" env (eval (.Call (.Name "super" p0) [] [] p1) env)
      standAt p2.atName
      let (f, first) ← holding [ov] (getMethod ov "__init__" (pl env))
      callWith p4 f first (backTo p4 (starEach [.Constant (.str txt) kk p3] env)) []))
    (hint : ∀ L a cd cc, interactive (ksEnv qual scope L a cd cc) = false) (hco : scope.isCoroutine = false) (hgen : scope.isGenerator = false) (hcell : ∀ x ∈ scope.names, x.2 ≠ .cell) {binds : List (Str × Value)} (hloc : ∀ y ∈ binds, scope.names.lookup y.1 = some .local)
    {x t0 : Addr} {h : Heap} {g : Array GenState} {d : Drawn} {t : Nat} {os : OsState} (kb : ∀ b o, base.get? b = some o → h.get? b = some o) (hx : h.get? x = some (excO C t0)) (hroom : A.depth < recursionLimit) (hb : binds.reverse.lookup ar.arg = some (.ref x))
    (hbind : ∀ (kV doc pm : Value) (an : Option Addr) (cda cc : Addr) (ct : Value), BindsTo ⟨h, g, d, t, os⟩ (ksFn "__init__" qual params body scope .none kV doc pm an (.ref cda) ct cc) ⟨us, []⟩ binds)
    (fin : ∀ h' tk t1 cda cc, h'.Ns h.objs.size (fun y => binds.reverse.lookup y) → (∀ b o, b ≠ x → h.get? b = some o → h'.get? b = some o) → h'.get? x = some (excO C t1) →
      _root_.PySem.wpAt (model P w) (A.deeper (ksEnv qual scope h.objs.size fI (.ref cda) cc)) (.func body (ksEnv qual scope h.objs.size fI (.ref cda) cc)) (execs rest (ksEnv qual scope h.objs.size fI (.ref cda) cc))
        (fun fl s' => R (.ok (.ret (match fl with | .ret v => v | _ => .none))) s') (fun e s' => wpAny (model P w) (A.deeper (ksEnv qual scope h.objs.size fI (.ref cda) cc)) (leaving (ksEnv qual scope h.objs.size fI (.ref cda) cc) e) (fun _ s'' => R (.error e) s'') (fun e' s'' => R (.error e') s'') s') ⟨h', g, d, tk, os⟩) :
    codeAny (model P w) A (.call (.ref fI) ⟨us, []⟩) R ⟨h, g, d, t, os⟩ := by
  obtain ⟨nm, q, N, bs, bm, sn, sub, ab, col, dd, k0, k1, k2, k3, k5, hC, hbm⟩ := T.cls
  obtain ⟨oc, od, kV, doc, pm, an, cda, ct, osl, cc, lk, hcd, ⟨cl, cld, csl, lkc⟩, ccl, cdd, vs, ccs, file, tf, lka, hvs, hfile⟩ := T.fn
  have X0 : K.In h := Mo.kin.keeps kb
  have lim : h.NoLimit := Mo.nolimit.keeps kb
  obtain ⟨mb, hmb, hbt⟩ := Mo.blt
  refine ks_codeAny_call_defAt (fd := ksFn "__init__" qual params body scope .none kV doc pm an (.ref cda) ct cc) (body := body) (binds := binds) hroom (X0 _ _ lk) rfl lim (codeRec_of X0 hcd) rfl (hbind _ _ _ _ _ _ _) hcell hloc (fun h1 hns hk1 => ?_) hco hgen hkf
  subst hbody
  have X1 : K.In h1 := X0.keeps hk1
  have kb1 : ∀ b o, base.get? b = some o → h1.get? b = some o := fun b o e => hk1 b o (kb b o e)
  have hx1 := hk1 _ _ hx
  show _root_.PySem.wpAt _ (A.deeper (ksEnv qual scope h.objs.size fI (.ref cda) cc)) (.func _ (ksEnv qual scope h.objs.size fI (.ref cda) cc)) (execs _ (ksEnv qual scope h.objs.size fI (.ref cda) cc)) _ _ _
  refine ks_wpAt_execs_cons (ks_wpAt_Expr_any ?_ (hint _ _ _ _) rfl)
  refine ks_wpAt_MethodCall (pl := pl _) (ks_wpAt_super_base (env := ksEnv qual scope h.objs.size fI (.ref cda) cc) hks hkc (by decide) rfl (X1 _ _ lk) rfl hpar rfl (X1 _ _ lka) rfl hvs hfile htop ?_) (ht _)
  refine ks_loadName_global hkf hks (loadGlobal_builtin (env := ksEnv qual scope h.objs.size fI (.ref cda) cc) (Mo.glob.keeps kb1) hmg (hmb.keeps kb1) ((hbt _ (by decide)).trans (show bootBuiltins "super" = some (.type "super") by kernel_rfl)) ⟨rfl, ?_⟩)
  refine wpAny_loadName_free hkf hkc rfl ⟨_, X1 _ _ lkc, rfl⟩ ?_
  refine wpAny_loadName_local hkf hka hns hb ?_
  refine ks_wpAny_isType_cls (X1 _ _ hC) rfl ⟨rfl, ?_⟩
  refine ks_wpAny_call_super (X1 _ _ hC) rfl hx1 rfl (fun c e => ?_) (looks_mroIn X1 T.self) (fun h2 hs2 hk2 => ?_)
  · exact absurd e (by simp)
  have X2 : K.In h2 := X1.keeps hk2
  have hx2 := hk2 _ _ hx1
  cases hcl : clsIn K C with
  | none =>
    have z := T.sup
    unfold ks_superIn at z
    rw [hcl] at z
    cases z
  | some cdt =>
    have hm := T.sup
    unfold ks_superIn at hm
    rw [hcl] at hm
    have I2 : InstAt h2 x (excO C t0) C none := ⟨hx2, rfl, rfl, trivial⟩
    have LI : Looks (model P w) h2 (isInstance (.ref x) (.type "ValueError")) true := I2.type.andThen (looks_subIn X2 T.veC)
    have LM : Looks (model P w) h2 (mroOf (.ref C)) cdt.mro := (looks_clsIn X2 hcl).andThen .now
    refine kxs_getMethod kxs_ValueError hs2 (looks_opaque X2 T.op) LM rfl X2 hm LI (ks_ne X2 I2 hcl) (by decide) ?_
    have up3 : ∀ b o, h2.get? b = some o → (h2.push (kxs_mw "ValueError.__init__" x)).get? b = some o := fun b o e => Heap.get?_push_of_some _ e
    have hu3 : (h2.push (kxs_mw "ValueError.__init__" x)).get? h2.objs.size = some (kxs_mw "ValueError.__init__" x) := Heap.get?_push_at rfl rfl
    refine kxs_callWith (i := "ValueError.__init__") (x := x) rfl (evalArgs_plain ?_)
    refine Calls.spliced_cons ?_
    refine Calls.Constant_str (x := txt) (k := kk) (pos := p3) ?_
    refine Calls.spliced_nil ⟨hu3, ?_⟩
    refine call_mw (up3 _ _ (X2 _ _ hC)) (up3 _ _ hx2) hu3 (by rw [sizeLine_eq]; simp) fun h4 t4 k4 e4 => ?_
    have k04 : ∀ b o, b ≠ x → h1.get? b = some o → h4.get? b = some o := fun b o nb e => k4 b o nb (up3 _ _ (hk2 _ _ e))
    have nL : h.objs.size ≠ x := Nat.ne_of_gt (Heap.lt_size hx)
    exact fin h4 _ t4 cda cc (hns.at fun o e => k04 _ o nL e) (fun b o nb e => k04 b o nb (hk1 _ _ e)) e4
end
end SkyX
end PySem
set_option Elab.async false
set_option linter.all false
set_option maxRecDepth 100000
set_option maxHeartbeats 4000000
/-! Such errors are made to be raised. -/
namespace Dl
open PySem PySem.Spec PyProof.Rows L2 PySem.SkyX

/-- what of the text must hold of a class's __init__, for sup_init -/
structure SupT (P : Program) (qual : Str) (params : Arguments) (body rest : List Stmt) (scope : Scope) (p0 p1 p2 p3 p4 p5 : Pos) (kk : Nat) (txt : Str) (ar : Arg) (pl : Env → Sem Bool) : Prop where
  htop : (P.main.scope.names.lookup ("super" : Str)).isSome = false
  hbody : body = .Expr (.Call (.Attribute (.Call (.Name "super" p0) [] [] p1) "__init__" p2) [.Constant (.str txt) kk p3] [] p4) p5 :: rest
  hpar : (params.posonlyargs ++ params.args).head? = some ar
  hks : scope.names.lookup ("super" : Str) = some .globalImplicit
  hkc : scope.names.lookup ("__class__" : Str) = some .free
  hka : scope.names.lookup ar.arg = some .local
  hkf : scope.kind = .function
  ht : ∀ env : Env, eval (.Call (.Attribute (.Call (.Name "super" p0) [] [] p1) "__init__" p2) [.Constant (.str txt) kk p3] [] p4) env = (do
      let ov ← attributeBase (.Call (.Name "super" p0) [] [] p1) "__init__" env (eval (.Call (.Name "super" p0) [] [] p1) env)
      standAt p2.atName
      let (f, first) ← holding [ov] (getMethod ov "__init__" (pl env))
      callWith p4 f first (backTo p4 (starEach [.Constant (.str txt) kk p3] env)) [])
  hint : ∀ L a cd cc, interactive (PySem.W.ksEnv qual scope L a cd cc) = false
  hco : scope.isCoroutine = false
  hgen : scope.isGenerator = false
  hcell : ∀ x ∈ scope.names, x.2 ≠ .cell
section
variable {X : Cx} {k : Cl} {ow : List Nat} {c lv : Nat} {fI : Addr} {x qual : Str} {params : Arguments} {body rest : List Stmt} {scope : Scope} {p0 p1 p2 p3 p4 p5 p pos : Pos} {kk : Nat} {txt : Str} {ar : Arg} {pl : Env → Sem Bool} {e : Expr} {fa : Dt → Option PyData}
/-- C() -/
theorem pmk_sky0 (T : SkyC X.prog X.K (k.ec c) fI qual params body scope) (S : SupT X.prog qual params body [] scope p0 p1 p2 p3 p4 p5 kk txt ar pl) (hsup : X.mg "super" = none) (hr : Room (lv + 1) X.A) (hg : Gl X x) (hm : X.mg x = some (.ref (k.ec c)))
    (hbind : ∀ (s : Shared) (v : Value) (kV doc pm : Value) (an : Option Addr) (cda cc : Addr) (ct : Value), BindsTo s (PySem.W.ksFn "__init__" qual params body scope .none kV doc pm an (.ref cda) ct cc) ⟨[v], []⟩ [(ar.arg, v)])
    (hdb : (x == ("__debug__" : Str)) = false := by decide) : PMk X (.Call (.Name x p) [] [] pos) (tEx k ow c aNil) := by
  intro pins s σ H Q I ⟨me, H0, F0, δ, ds, ex, sl, hf, q⟩
  obtain ⟨nm, qn, N, bs, bm, sn, sub, ab, col, dd, k0, k1, k2, k3, k5, hC, hbm⟩ := T.cls
  refine wpAny_Call_Name_kw (ld_glob I hg hm ?_ hdb)
  refine PySem.W.callWith_K0 I.kIn T.kC ?_
  obtain ⟨hp, g, dr, tk, os⟩ := s
  have up : ∀ b o, hp.get? b = some o → ((hp.push (PySem.W.kdv_tup [])).push (PySem.HandSPX.excO (k.ec c) hp.objs.size)).get? b = some o := fun b o z => Heap.get?_push_of_some _ (Heap.get?_push_of_some _ z)
  have hx : ((hp.push (PySem.W.kdv_tup [])).push (PySem.HandSPX.excO (k.ec c) hp.objs.size)).get? (hp.objs.size + 1) = some (PySem.HandSPX.excO (k.ec c) hp.objs.size) := by heap_get
  refine wpAny_call (PySem.HandSPX.call_own PySem.F.excBase_ValueError (fun Y => PySem.HandSPX.refsVE_contains Y bm hbm) (I.kIn _ _ hC) (PySem.W.looks_findIn I.kIn T.ini) (fun self => PySem.W.bind_fn I.kIn self T.tfn) (by rw [sizeLine_eq]; simp) ?_)
  refine sup_init (rest := []) (binds := [(ar.arg, .ref (hp.objs.size + 1))]) T I.ok.mod hsup S.htop S.hbody S.hpar S.hks S.hkc S.hka S.hkf S.ht S.hint S.hco S.hgen S.hcell (fun y hy => ?_) (fun b o z => up b o (I.bk b o z)) hx (hr.make (k.ec c) [] []).depth ?_ (fun kV doc pm an cda cc ct => hbind _ _ _ _ _ _ _ _ _) (fun h' tk' t1 cda cc hns kp hx' => ?_)
  · obtain rfl : y = (ar.arg, Value.ref (hp.objs.size + 1)) := by simpa using hy
    exact S.hka
  · simp [List.lookup]
  · refine wpAt_of_wpAny (wpAny_execs_nil ⟨rfl, ?_⟩)
    have hn : H (hp.objs.size + 1) = none := I.hok.fresh (Nat.le_succ _)
    exact ⟨hp.objs.size + 1, _, _, ⟨hp, g, dr, tk, os⟩, H, .ref (k.ec c), none, rfl, I, fun b o z => kp b o (Nat.ne_of_lt (Nat.lt_succ_of_lt (Heap.lt_size z))) (up b o z), by
      cases z : hp.get? (hp.objs.size + 1) with
      | none => rfl
      | some o => exact absurd (Nat.lt_of_succ_lt (Heap.lt_size z)) (Nat.lt_irrefl _), hx', ⟨rfl, rfl⟩, rfl, rfl, hn, rfl, I.bare, raises_own T.exC T.tyC, q none F0 H (.refl ex) ⟨sl.tab, fun d z => nomatch z⟩⟩
theorem relO_one {n : Str} {v : V} {u : Value} (r : RelV v u) (f : Str) : RelO (List.lookup f [(n, v)]) (if f = n then some u else none) := by
  by_cases h : f = n
  · subst h
    rw [if_pos rfl]
    have e : List.lookup f [(f, v)] = some v := by simp [List.lookup]
    rw [e]
    exact r
  · have e1 : (f == n) = false := by simpa using h
    rw [if_neg h]
    have e : List.lookup f [(n, v)] = none := by simp [List.lookup, e1]
    rw [e]
    trivial
/-- C(e), its __init__ keeps e as an attribute -/
theorem pmk_sky1 {nf na : Str} {q1 q2 q3 q4 : Pos} (T : SkyC X.prog X.K (k.ec c) fI qual params body scope) (S : SupT X.prog qual params body [.Assign [.Attribute (.Name ar.arg q1) nf q2] (.Name na q3) q4] scope p0 p1 p2 p3 p4 p5 kk txt ar pl)
    (sa : PySem.W.findIn X.K (.ref (k.ec c)) "__setattr__" = some (some (.builtin "object.__setattr__"))) (noN : PySem.W.findIn X.K (.ref (k.ec c)) nf = some none)
    (hsup : X.mg "super" = none) (hr : Room (lv + 1) X.A) (hg : Gl X x) (hm : X.mg x = some (.ref (k.ec c)))
    (hbind : ∀ (s : Shared) (v u : Value) (kV doc pm : Value) (an : Option Addr) (cda cc : Addr) (ct : Value), BindsTo s (PySem.W.ksFn "__init__" qual params body scope .none kV doc pm an (.ref cda) ct cc) ⟨[v, u], []⟩ [(ar.arg, v), (na, u)])
    (hna : scope.names.lookup na = some .local) (hne : (ar.arg == na) = false) (hnd1 : (ar.arg == ("__debug__" : Str)) = false) (hnd2 : (na == ("__debug__" : Str)) = false) (hsw : ∀ env, swapsWith (.Name na q3) (some (.Attribute (.Name ar.arg q1) nf q2)) q4.line env = pure false)
    (ha : PE X e (tD k ow fa)) (hdb : (x == ("__debug__" : Str)) = false := by decide) (he : starEach (e :: []) X.env = (false, eval e X.env) :: starEach [] X.env := by rfl) (hpl : (backTo pos (starEach [] X.env)).any (·.1) = false := by rfl) :
    PMk X (.Call (.Name x p) [e] [] pos) (tEx k ow c (aCons fa aNil)) := by
  intro pins s σ H Q I ⟨me, H0, F0, δ, ds, ex, sl, hf, q⟩
  obtain ⟨d0, hfa, hf2⟩ := Option.bind_eq_some_iff.mp hf
  obtain ⟨nm, qn, N, bs, bm, sn, sub, ab, col, dd, k0, k1, k2, k3, k5, hC, hbm⟩ := T.cls
  refine wpAny_Call_Name_kw (ld_glob I hg hm ?_ hdb)
  refine PySem.W.callWith_K (h₀ := X.base) I.ok.mod.kin T.kC (thn ((pa_cons ha pa_nil he).run pos pins s σ H (fun vs H1 => ∃ v F1, vs = [v] ∧ Nx k.T F0 H F1 H1 ∧ Rp k F1 v d0) I ⟨me, H0, F0, δ, d0, ex, sl, hfa, fun v F1 H1 n1 r1 => ⟨v, F1, rfl, n1, r1⟩⟩) fun us s1 ⟨vs, H1, I1, rv, v, F1, ev, n1, r1⟩ => ?_) he hpl
  subst ev
  refine ⟨I1.kIn, ?_⟩
  cases rv with
  | @cons _ u _ us' ru rn =>
  cases rn
  have hcl : PySem.W.clsIn X.K (k.ec c) = some { name := nm, bases := bs, mro := .ref (k.ec c) :: bm, ns := N, qualname := qn, hasDict := true, slotNames := sn, subclasses := sub, abstract := ab, collection := col, hasDel := false } := by unfold PySem.W.clsIn; rw [hC] <;> rfl
  show wpAny _ _ (call (.ref (k.ec c)) [u]) _ _ _
  obtain ⟨hp, g, dr, tk, os⟩ := s1
  have up : ∀ b o, hp.get? b = some o → ((hp.push (PySem.W.kdv_tup [u])).push (PySem.HandSPX.excO (k.ec c) hp.objs.size)).get? b = some o := fun b o z => Heap.get?_push_of_some _ (Heap.get?_push_of_some _ z)
  have hx : ((hp.push (PySem.W.kdv_tup [u])).push (PySem.HandSPX.excO (k.ec c) hp.objs.size)).get? (hp.objs.size + 1) = some (PySem.HandSPX.excO (k.ec c) hp.objs.size) := by heap_get
  refine wpAny_call (PySem.HandSPX.call_own PySem.F.excBase_ValueError (fun Y => PySem.HandSPX.refsVE_contains Y bm hbm) (I1.kIn _ _ hC) (PySem.W.looks_findIn I1.kIn T.ini) (fun self => PySem.W.bind_fn I1.kIn self T.tfn) (by rw [sizeLine_eq]; simp) ?_)
  refine sup_init (binds := [(ar.arg, .ref (hp.objs.size + 1)), (na, u)]) T I1.ok.mod hsup S.htop S.hbody S.hpar S.hks S.hkc S.hka S.hkf S.ht S.hint S.hco S.hgen S.hcell (fun y hy => ?_) (fun b o z => up b o (I1.bk b o z)) hx (hr.make (k.ec c) [u] []).depth ?_ (fun kV doc pm an cda cc ct => hbind _ _ _ _ _ _ _ _ _ _) (fun h' tk' t1 cda cc hns kp hx' => ?_)
  · simp only [List.mem_cons, List.not_mem_nil, or_false] at hy
    rcases hy with rfl | rfl
    · exact S.hka
    · exact hna
  · simp [List.lookup, hne]
  · have old' : ∀ b o, hp.get? b = some o → h'.get? b = some o := fun b o z => kp b o (Nat.ne_of_lt (Nat.lt_succ_of_lt (Heap.lt_size z))) (up b o z)
    have X' : X.K.In h' := I1.kIn.keeps old'
    refine wpAt_of_wpAny (wpAny_execs_cons (plainObj_wpAny_Assign_Attribute ?_ (hsw _)))
    refine wpAny_Name (wpAny_loadName_local S.hkf hna hns (v := u) (by simp [List.lookup]) ?_) hnd2
    refine wpAny_Name (wpAny_loadName_local S.hkf S.hka hns (v := .ref (hp.objs.size + 1)) (by simp [List.lookup, hne]) ?_) hnd1
    refine PySem.W.set_plain X' (ox := PySem.HandSPX.excO (k.ec c) t1) (od := none) ⟨hx', rfl, rfl, trivial⟩ sa ?_
    refine PySem.HandSPX.exc_osa X' hx' hcl (show PySem.HandSPX.refsVE (.ref (k.ec c) :: bm) = true from hbm) rfl noN (fun h3 tk3 dx k3 dn dne hx3 hn3 => ?_)
    show wpAny _ _ (execs [] _) _ _ _
    refine wpAny_execs_nil ⟨rfl, ?_⟩
    have old : ∀ b o, hp.get? b = some o → h3.get? b = some o := fun b o z => k3 b o (Nat.ne_of_lt (Nat.lt_succ_of_lt (Heap.lt_size z))) (old' b o z)
    have big : hp.objs.size ≤ dx := by
      have z : hp.objs.size < h'.objs.size := Nat.lt_of_succ_lt (Heap.lt_size hx')
      have dn' : h'.objs.size ≤ dx := dn
      omega
    show MkP X pins σ Q (.ref (hp.objs.size + 1)) ⟨h3, g, dr, tk3, os⟩
    obtain ⟨G', g1, g2⟩ := restrict h3 fun b => decide (b ≠ hp.objs.size + 1)
    have gk : ∀ b, b ≠ hp.objs.size + 1 → G'.get? b = h3.get? b := fun b hb => g1 b (decide_eq_true hb)
    have ge : G'.get? (hp.objs.size + 1) = none := g2 _ (by simp)
    have oldG : ∀ b o, hp.get? b = some o → G'.get? b = some o := fun b o z => (gk b (Nat.ne_of_lt (Nat.lt_succ_of_lt (Heap.lt_size z)))).trans (old b o z)
    have hd : H1 dx = none := I1.hok.fresh big
    have ob : ObjOk X.prog X.w (upd H1 dx (.xd [(nf, v)])) G' dx (.xd [(nf, v)]) := ⟨_, hn3.at (fun o z => (gk dx dne).trans z), fun f => relO_one ru f⟩
    have J : Inv X pins σ (upd H1 dx (.xd [(nf, v)])) ⟨G', g, dr, tk3, os⟩ := I1.laid (t' := tk3) oldG big ob
    refine ⟨hp.objs.size + 1, _, _, ⟨G', g, dr, tk3, os⟩, _, .ref (k.ec c), some dx, rfl, J, fun b o z => ?_, ge, hx3, ⟨rfl, rfl⟩, rfl, rfl, ?_, rfl, I1.bare, raises_own T.exC T.tyC, q (some dx) F1 _ (n1.trans (.newH n1.fh hd)) ⟨(n1.trans (.newH n1.fh hd)).h.ts sl.tab, fun a z => ?_⟩⟩
    · by_cases hb : b = hp.objs.size + 1
      · have z' : G'.get? b = some o := z
        rw [hb, ge] at z'; cases z'
      · exact (gk b hb).symm.trans z
    · rw [upd_ne (Ne.symm dne)]
      exact I1.hok.fresh (Nat.le_succ _)
    · cases z
      exact ⟨_, upd_same⟩
end
end Dl
set_option Elab.async false
set_option linter.all false
set_option maxRecDepth 100000
set_option maxHeartbeats 4000000
/-! The error that is handled: isinstance, a def called with it, try and except. -/
namespace Dl
open PySem PySem.Spec PyProof.Rows L2
/-! ### isinstance of it -/
section
open PySem.W PySem.Calls
variable {prog : Program} {w : World} {A : Around} {E : Value → Shared → Prop} {s : Shared} {K : Frag} {x D : Addr} {ox : Obj} {od : Option Obj}
/-- its __class__ -/
theorem err_cls {Q : Option Value → Shared → Prop} (ec : ExcC K D) (X : K.In s.heap) (J : InstAt s.heap x ox D od) (h : Q (some (.ref D)) { s with toks := s.toks + 1 }) : wpAny (model prog w) A (getAttr? (.ref x) "__class__") Q E s := by
  have hf : findObj K D od "__class__" = some (.bind (.builtin "getset_descriptor.__get__") (.builtin "object.__class__")) := by
    obtain ⟨cd, hc, _⟩ := any_some ec.hd
    unfold findObj
    rw [hc, Option.bind_some, ec.ha, Option.bind_some]
    simp [ec.hn, ec.ht]
  obtain ⟨hp, g, d, t, os⟩ := s
  have Lt := J.type (M := model prog w)
  have Lg := looks_findIn (M := model prog w) X ec.hg
  have Lk := looks_findIn (M := model prog w) X ec.hk
  have Lf := looks_find (M := model prog w) X J hf
  have Lb : Looks (model prog w) hp (isInstance (.ref x) (.type "BaseException")) true := Lt.andThen (looks_subIn X ec.hs)
  have z0 : (false && onTheHeap (Value.builtin "BaseException.__getattribute__")) = false := rfl
  have z1 : (onTheHeap (Value.ref D) && Value.builtin "BaseException.__getattribute__" == Value.builtin "object.__getattribute__") = false := by
    have z2 : (Value.builtin "BaseException.__getattribute__" == Value.builtin "object.__getattribute__") = false := by decide +kernel
    rw [z2]; rfl
  unfold getAttr? getAttrBy? getAttrBy
  refine wpAny_bind (wpAny_mkText ?_)
  refine wpAny_bind (wpAny_attempt (wpAny_holding ?_))
  refine wpAny_bind (Lt.at ?_)
  refine wpAny_bind (Lg.at ?_)
  show wpAny _ _ (if (onTheHeap (Value.ref D) && Value.builtin "BaseException.__getattribute__" == Value.builtin "object.__getattribute__") = true then _ else _) _ _ ⟨hp, g, d, t + 1, os⟩
  rw [z1, if_neg Bool.false_ne_true]
  unfold getAttrByItsOwn hookBefore
  refine wpAny_bind ?_
  rw [if_pos (show onTheHeap (Value.ref D) = true from rfl)]
  refine Lk.at (wpAny_bind (wpAny_attempt (wpAny_holding ?_)))
  unfold callGetattribute
  rw [z0, if_neg Bool.false_ne_true]
  unfold boundAndCalled
  rw [PySem.F.excAttr_ValueError.ga.bind (.ref x)]
  refine wpAny_bind (wpAny_pure ?_)
  show wpAny _ _ (call (.builtin "BaseException.__getattribute__") [.ref x, .str "__class__" t]) _ _ ⟨hp, g, d, t + 1, os⟩
  refine wpAny_call (codeAny_call_builtin PySem.F.excAttr_ValueError.ga.plain PySem.F.entry_bexc_ga (@check_slot (model prog w) _ _ ⟨hp, g, d, t + 1, os⟩ "BaseException.__getattribute__" "BaseException" "__getattribute__" (.ref x) [.str "__class__" t] [] _ (by decide +kernel) (by decide +kernel) Lb (PySem.F.args_bexc_ga (.ref x) (.str "__class__" t)) ?_))
  unfold Builtin.«object.__getattribute__»
  refine wpAny_bind (wpAny_of_eq (a := ((Value.ref x : Value), [Value.str "__class__" t])) (by first | rfl | (simp only [slotArgs]; rfl)) (wpAny_bind (wpAny_pure (wpAny_bind (Lt.at (wpAny_bind (Lf.at ?_)))))))
  show wpAny _ _ (holding [Value.builtin "object.__class__"] (call (.builtin "getset_descriptor.__get__") [.builtin "object.__class__", .ref x, .ref D]) >>= ret) _ _ ⟨hp, g, d, t + 1, os⟩
  refine wpAny_bind (wpAny_holding (wpAny_call (class_get (s := ⟨hp, g, d, t + 1, os⟩) (ox := ox) (od := od) X J ec.hm (wpAny_pure ?_))))
  show wpAny _ _ (handedOut (.ref D)) _ _ ⟨hp, g, d, t + 1, os⟩
  rw [handedOut_of (v := .ref D) rfl]
  first
    | exact wpAny_pure (wpAny_pure h)
    | exact wpAny_pure h
    | exact wpAny_pure (wpAny_bind (wpAny_pure (wpAny_pure h)))
theorem err_kit (ec : ExcC K D) : KitX K (.ref x) (.ref D) (fun h => ∃ od, InstAt h x ox D od) where
  ty := fun _ _ _ ⟨_, J⟩ => J.type
  it := fun _ _ X _ => by
    obtain ⟨cd, hc, _⟩ := any_some ec.hd
    unfold clsIn at hc
    split at hc
    · rename_i ho
      intro A2 Q2 E2 s2 k q
      unfold isType loadHead
      exact wpAny_bind (wpAny_loadPart (k _ _ (X _ _ ho)) (wpAny_pure q))
    · cases hc
  ne := fun h tp dd its n sl X htp => by
    obtain ⟨cd, hc, _⟩ := any_some ec.hd
    refine Bool.eq_false_iff.mpr fun q => ?_
    obtain rfl : D = tp := Value.ref.inj (beq_iff_eq.mp q)
    unfold clsIn at hc
    split at hc
    · rename_i ho
      have z := (X _ _ ho).symm.trans htp
      cases z
    · cases hc
  ca := fun X ⟨_, J⟩ k => err_cls ec X J k
end
/-- isinstance(e, c): e's datum is the mark of what is handled -/
def isE (b : Bool) : PyData → Option PyData
  | .dict [(.none, .int 2)] => some (.bool b)
  | _ => none
section
variable {X : Cx} {k : Cl} {ow : List Nat} {a D : Addr} {dd : Option Addr} {oe : Obj} {fa : Dt → Option PyData} {e : Expr}
def rIsW (K : PySem.W.Frag) (D a : Addr) (dd : Option Addr) : List V → Hp → VK → Prop := fun xs H Q => ∃ (c : V) (cv : Value) (b : Bool), xs = [.ref a, c] ∧ (∀ u, RelV c u → u = cv) ∧ PySem.W.kitOne K (.ref D) cv = some b ∧ XdD dd H ∧ Q (.bl b) H
theorem call_isW (ec : ExcC X.K D) (hz : Zc (.ref D) dd oe) (hf : ∃ vs, oe.data = .fields vs) (hp : (a, oe) ∈ X.pn) : CallR X (.builtin "isinstance") (rIsW X.K D a dd) := by
  intro pins s σ H xs us Q I r ⟨c, cv, b, exs, hcv, hb, xd, q⟩
  subst exs
  cases r with
  | cons rx rr =>
    cases rr with
    | cons rt rr =>
      cases rr
      cases rx
      obtain rfl := hcv _ rt
      obtain ⟨hget, _⟩ := I.pin (a, oe) (List.mem_append.mpr (.inl hp))
      obtain ⟨vs, hv⟩ := hf
      have J : ∃ od, PySem.W.InstAt s.heap a oe D od := by
        obtain ⟨h1, h2⟩ := hz
        have nc : PySem.W.notCls oe = true := by
          unfold PySem.W.notCls
          rw [hv]
        cases dd with
        | none => exact ⟨none, hget, h1, nc, by rw [h2]; trivial⟩
        | some d =>
          obtain ⟨fs, ho⟩ := xd d rfl
          obtain ⟨_, ⟨o', _, _, ho', _⟩, _⟩ := I.hok d _ ho
          exact ⟨some o', hget, h1, nc, by rw [h2]; exact ho'⟩
      exact PySem.W.kia_one (err_kit ec) I.kIn J hb (fun z => nomatch z) fun tk => ⟨.bl b, H, I.kept (t' := tk) fun _ _ z => z, rfl, q⟩
theorem d_isE {x y : Str} {p p2 pos : Pos} {Cy : Addr} {b : Bool} (ec : ExcC X.K D) (hz : Zc (.ref D) dd oe) (hf : ∃ vs, oe.data = .fields vs) (hp : (a, oe) ∈ X.pn) (hk : k.er = some (a, dd)) (hb : PySem.W.kitOne X.K (.ref D) (.ref Cy) = some b)
    (hg : Gl X x) (hm : X.mg x = none) (hv : bootBuiltins x = some (.builtin "isinstance")) (hg2 : Gl X y) (hm2 : X.mg y = some (.ref Cy)) (hy2 : (y == ("__debug__" : Str)) = false) (ha : PE X e (tD k ow fa))
    (hn : x ≠ "__name__" := by decide) (hdb : (x == ("__debug__" : Str)) = false := by decide) (he : starEach [e, .Name y p2] X.env = (false, eval e X.env) :: starEach [.Name y p2] X.env := by rfl) (he2 : starEach [.Name y p2] X.env = (false, eval (.Name y p2) X.env) :: starEach [] X.env := by rfl) (hpl : (backTo pos (starEach [.Name y p2] X.env)).any (·.1) = false := by rfl) :
    PE X (.Call (.Name x p) [e, .Name y p2] [] pos) (tD k ow (b1 (isE b) fa)) :=
  pe_imp (pe_callB (call_isW ec hz hf hp) hg hm hv (pa_cons ha (pa_cons (pe_glob hg2 hm2 (show RelV (.ref Cy) (.ref Cy) from rfl) hy2) pa_nil he2) he) hn hdb he hpl) fun σ H Q ⟨me, H0, F, δ, d, ex, xx, hf, q⟩ => by
  obtain ⟨d1, h1, h2⟩ := Option.bind_eq_some_iff.mp hf
  refine ⟨me, H0, F, δ, d1, ex, xx, h1, fun v F1 H1 n1 r1 => ?_⟩
  unfold isE at h2
  split at h2
  · cases h2
    cases r1 with
    | @err a2 dd2 h r =>
      rw [hk] at h
      cases h
      exact ⟨.ref Cy, .ref Cy, b, rfl, fun u z => z, hb, fun d z => let ⟨o, y⟩ := r d z; ⟨o, n1.fh.e _ _ y⟩, q _ F1 H1 n1 (.bl b)⟩
  · cases h2
end
end Dl
set_option Elab.async false
set_option linter.all false
set_option maxRecDepth 100000
set_option maxHeartbeats 4000000
/-! A def called with the error that is handled; try and except. -/
namespace Dl
open PySem PySem.Spec PyProof.Rows L2
open L2H (RoomH PinOk cxH inv_startH)
/-- the error at a, of the class at C -/
def Hot (C a : Addr) (dd : Option Addr) (p : Addr × Obj) : Prop := p.1 = a ∧ Zc (.ref C) dd p.2 ∧ ∃ vs, p.2.data = .fields vs
/-- the mark of the error among the data -/
abbrev errD : PyData := .dict [(.none, .int 2)]
def spW (T : Tb) (g : List PyData → Option Rs) (a : Addr) (dd : Option Addr) : Sp := fun vs H Q E => vs = [.ref a] ∧ ExD T dd H ∧ ∃ nm, g [errD] = some (.ok (.str nm)) ∧ ∀ H', Gr T H H' → Q (.str nm) H'
/-- what a def promises that is called with it -/
def FnW (P : Program) (w : World) (K : PySem.W.Frag) (mg : Str → Option Value) (base : Heap) (CX : CXT) (k : Nat) (f : Addr) (fd : FuncData) (ps : List Str) (C a : Addr) (dd : Option Addr) (sp : Sp) : Prop :=
  ∀ (A : Around) (outer : List Env) (s : Shared) (H : Hp) (args : Args) (us : List Value) (vs : List V) (Q : VK) (E : XK) (p : Addr × Obj), RoomH k A → Hot C a dd p → PinOk outer H s p → Env0 P w K mg base A outer s H → BindsTo s fd args (ps.zip us) → Vals vs us → sp vs H Q E →
    codeAny (model P w) A (.call (.ref f) args) (CR CX outer P w H s Q E) s
section
variable {P : Program} {w : World} {K : PySem.W.Frag} {mg : Str → Option Value} {base : Heap} {x qual : Str} {params : Arguments} {body : List Stmt} {scope : Scope} {dvs : List V} {kws : List (Str × V)} {fa : Addr} {fd : FuncData}
theorem okW {k : Cl} {lv : Nat} {N : List Str} {y : Str} {h : Dt → Option Out} {C a : Addr} {dd : Option Addr} {CX : CXT} (ow : List Nat) (F : FunD K x qual params body scope dvs kws fa fd) (S : FnScope N [y] scope)
    (hb : ∀ (cdv : Value) (A : Around) (outer : List Env) (s : Shared) (H : Hp) (E : XK) (p : Addr × Obj) (F0 H0 : Hp), Hot C a dd p → RoomH lv (A.deeper (envOfC qual scope s.heap.objs.size fa cdv)) → PSs (cxH CX P w K mg base N qual scope fa cdv A outer s H E p) body (tS ⟨{ k with er := some (a, dd) }, none, F0, H0, ow, E⟩ h))
    (how : ∀ i ∈ ow, 1 ≤ i := by decide) : FnW P w K mg base CX (lv + 1) fa fd [y] C a dd (spW k.T (runP N h) a dd) := by
  intro A outer s H args us vs Q E p hr hot hpin e0 hbd rv ⟨ev, xd, nm, hg, q⟩
  subst ev
  obtain ⟨oc, od, dV, kV, doc, pm, an, cdv, ct, osl, rfl, lk, hcd, _, _⟩ := F.ex
  have hs0 : ∀ b o, base.get? b = some o → s.heap.get? b = some o := fun b o z => (e0.bs b o z).1
  have KX : K.In s.heap := e0.mod.kin.keeps hs0
  have hk2 : ∀ z ∈ [y].zip us, scope.names.lookup z.1 = some .local ∨ (scope.names.lookup z.1 = some .cell ∧ ((cellsFrom (s.heap.objs.size + 1) scope.names []).lookup z.1).isSome = true) := fun ⟨n, v⟩ hz =>
    (S.par n (List.of_mem_zip hz).1).imp id fun q => ⟨q, PySem.W.cellsFrom_some _ _ _ (.inl q)⟩
  refine codeAny_call_function hr.depth (KX _ _ lk) rfl S.co S.gen rfl (PySem.W.codeRec_of KX hcd) (hbd _ _ _ _ (wpAny_newFunctionEnv_cells S.kind hk2 fun env he s1 xx => ?_))
  subst he
  refine ⟨(e0.mod.nolimit.keeps hs0).keeps xx.toInCall.keep, codeAny_func ?_⟩
  have I : Inv (cxH CX P w K mg base N qual scope fa cdv A outer s H E p) [] (L2.start N [.ref a]) H s1 := inv_startH S hpin e0 rfl rv xx
  let F1 : Hp := fun b => open Classical in if dd = some b then H b else none
  have at1 : ∀ {b : Addr} {o : HO}, F1 b = some o → dd = some b ∧ H b = some o := fun {b o} z => by
    by_cases hb : dd = some b
    · have z' : (if dd = some b then H b else none) = some o := z
      rw [if_pos hb] at z'
      exact ⟨hb, z'⟩
    · have z' : (if dd = some b then H b else none) = some o := z
      rw [if_neg hb] at z'
      cases z'
  have f1 : FIn F1 H := ⟨fun b o z => (at1 z).2, fun b ps z => by
    obtain ⟨h1, h2⟩ := at1 z
    obtain ⟨fs, h3⟩ := xd.2 b h1
    rw [h3] at h2
    cases h2⟩
  have r1 : RpA { k with er := some (a, dd) } F1 [.ref a] [errD] := .cons (.err rfl fun d z => by
    obtain ⟨fs, y⟩ := xd.2 d z
    exact ⟨fs, by show (if dd = some d then H d else none) = _; rw [if_pos z]; exact y⟩) .nil
  obtain ⟨o, h1, h2⟩ := Option.bind_eq_some_iff.mp hg
  have t := hb cdv A outer s H E p F1 H hot (hr.deeper _)
  refine wpAny_mono (t.run [] s1 (L2.start N [.ref a]) H { nx := fun _ H' => Q .non H', rt := Q } I ⟨F1, startD N [errD], o, .refl f1 (fun a z => nomatch z), .start xd.1 r1 (fun i hi => how i hi), (fun p z => nomatch z), h1, ?_⟩) (fun fl s' hs => ?_) fun e s' hs => hs
  · cases o with
    | nx δ => cases h2
    | rt d δ =>
      cases h2
      intro v F' H' b _ r'
      cases r'
      exact q H' b.nx.h
    | ex c δ => cases h2
    | bk δ => cases h2
    | ct δ => cases h2
  · have fin : ∀ {σ' : L2.St} {H' : Hp} {v : V} {u : Value}, Inv (cxH CX P w K mg base N qual scope fa cdv A outer s H E p) [] σ' H' s' → RelV v u → Q v H' → CE outer P w H s Q u s' := fun J rv q => ⟨_, _, J.os, J.bare, J.base, J.hok, rv, q⟩
    cases fl with
    | ret u =>
      obtain ⟨v, σ', H', J, rv, q⟩ := hs
      exact fin J rv q
    | next =>
      obtain ⟨σ', H', J, q⟩ := hs
      exact fin (v := V.non) (u := Value.none) J rfl q
    | brk => exact hs.elim fun _ z => z.elim fun _ z => z.2.elim
    | cont => exact hs.elim fun _ z => z.elim fun _ z => z.2.elim
end
section
variable {X : Cx} {T : Tb} {k lv : Nat} {f C a : Addr} {dd : Option Addr} {oe : Obj} {fd : FuncData} {ps : List Str} {g : List PyData → Option Rs} {x : Str} {p q pos : Pos} {e : Expr} {i : Nat}
/-- f(e), e the name of the error that is handled -/
def tW (T : Tb) (g : List PyData → Option Rs) (i : Nat) (a : Addr) (dd : Option Addr) : TE := fun σ H Q => σ[i]? = some (some (.ref a)) ∧ ExD T dd H ∧ ∃ nm, g [errD] = some (.ok (.str nm)) ∧ ∀ H', Gr T H H' → Q (.str nm) H'
theorem pe_callW {y : Str} (G : FnW X.prog X.w X.K X.mg X.base (L2.CX X.prog X.w) lv f fd [y] C a dd (spW T g a dd)) (hr : RoomH lv X.A) (hot : Hot C a dd (a, oe)) (hp : (a, oe) ∈ X.pn) (hg : Gl X x) (hm : X.mg x = some (.ref f)) (hk : PySem.W.keepIn X.K (.ref f) = true) (hb : Binds X.K fd [y] []) (he : PE X e (tVar i))
    (hdb : (x == ("__debug__" : Str)) = false := by decide) (hst : starEach [e] X.env = (false, eval e X.env) :: starEach [] X.env := by rfl) (hpl : (backTo pos (starEach [] X.env)).any (·.1) = false := by rfl) : PE X (.Call (.Name x q) [e] [] pos) (tW T g i a dd) := by
  refine ⟨fun pins s σ H Q I ⟨e1, xd, nm, h1, h2⟩ => ?_⟩
  refine wpAny_Call_Name_kw (ld_glob I hg hm ?_ hdb)
  refine PySem.W.callWith_K (h₀ := X.base) I.ok.mod.kin hk (thn ((pa_cons he pa_nil hst).run pos pins s σ H (fun vs H1 => vs = [.ref a] ∧ H1 = H) I ⟨_, e1, rfl, rfl⟩) fun us s1 ⟨vs, H1, I1, r, ev, eh⟩ => ⟨I1.kIn, ?_⟩) hst hpl
  subst ev
  subst eh
  show wpAny _ _ (call (.ref f) us) _ _ _
  have hl : us.length = [y].length := by rw [← r.length] <;> rfl
  have b := hb s1 us I1.kIn (by rw [List.append_nil]; exact hl)
  rw [List.append_nil] at b
  have P1 := I1.pin (a, oe) (List.mem_append_left _ hp)
  have hpin : PinOk X.stack H1 s1 (a, oe) := ⟨P1.1, P1.2.1, fun hm => (List.mem_cons.mp (I1.stkSub a hm)).elim P1.2.2.1 P1.2.2.2.1, P1.2.2.2.2⟩
  refine wpAny_call (codeAny_mono (G X.A X.stack s1 H1 ⟨us, []⟩ us [.ref a] Q E0 (a, oe) hr hot hpin I1.env0 b r ⟨rfl, xd, nm, h1, h2⟩) fun r s' hq => ?_)
  cases r with
  | error e => exact passL pins σ H1 s1 e s' I1 hq
  | ok fl =>
    cases fl with
    | ret u => exact I1.after hq
    | next => exact False.elim hq
    | brk => exact False.elim hq
    | cont => exact False.elim hq
end
/-! ### try: body, except Base as e: return (text, f(e)) -/
def stTry (nmOf : Nat → Option Str) (tx : Str) (f : Dt → Option Out) : Dt → Option Out := fun δ => (f δ).bind fun o => match o with
  | .ex c δ' => (nmOf c).map fun nm => .rt (.tuple [.str tx, .str nm]) δ'
  | o => some o
/-- the suite's reading -/
def tSu (T : Tb) (i : Nat) (g : Value → List PyData → Option Rs) (tx : Str) (a : Addr) (cls : Value) (dd : Option Addr) : TS := fun D σ H => σ[i]? = some (some (.ref a)) ∧ ExD T dd H ∧ ∃ nm, g cls [errD] = some (.ok (.str nm)) ∧ ∀ t H', Gr T H H' → H' t = none → D.rt (.ref t) (upd H' t (.tup [.str tx, .str nm]))
theorem suite_ret {X : Cx} {T : Tb} {f C a : Addr} {dd : Option Addr} {oe : Obj} {pn : List (Addr × Obj)} {fd : FuncData} {g : Value → List PyData → Option Rs} {x y : Str} {tx : Str} {q pos p1 p2 p3 : Pos} {kk x1 lv i : Nat} {e : Expr} (G : FnW X.prog X.w X.K X.mg X.base (L2.CX X.prog X.w) lv f fd [y] C a dd (spW T (g (.ref C)) a dd)) (hr : RoomH lv X.A) (hz : Zc (.ref C) dd oe) (hf : ∃ vs, oe.data = .fields vs) (hg : Gl X x) (hm : X.mg x = some (.ref f)) (hk : PySem.W.keepIn X.K (.ref f) = true) (hb : Binds X.K fd [y] [])
    (he : PE (X.suite a ((a, oe) :: pn)) e (tVar i)) (hc : PE (X.suite a ((a, oe) :: pn)) (.Constant (.str tx) kk p1) (tC (.str tx)))
    (h1 : starEach [.Constant (.str tx) kk p1, .Call (.Name x q) [e] [] pos] X.env = (false, eval (.Constant (.str tx) kk p1) X.env) :: starEach [.Call (.Name x q) [e] [] pos] X.env := by rfl) (h2 : starEach [.Call (.Name x q) [e] [] pos] X.env = (false, eval (.Call (.Name x q) [e] [] pos) X.env) :: starEach [] X.env := by rfl)
    (hdb : (x == ("__debug__" : Str)) = false := by decide) (hst : starEach [e] X.env = (false, eval e X.env) :: starEach [] X.env := by rfl) (hpl : (backTo pos (starEach [] X.env)).any (·.1) = false := by rfl) :
    PSs (X.suite a ((a, oe) :: pn)) [.Return (some (.Tuple [.Constant (.str tx) kk p1, .Call (.Name x q) [e] [] pos] x1 p2)) p3] (tSu T i g tx a (.ref C) dd) :=
  pss_imp (pss_one (ps_ret (pe_tup (pa_cons hc (pa_cons (pe_callW (X := X.suite a ((a, oe) :: pn)) G ⟨hr.dp, hr.un⟩ ⟨rfl, hz, hf⟩ List.mem_cons_self hg hm hk hb he hdb hst hpl) pa_nil h2) h1)))) fun D σ H ⟨e1, xd, nm, h1, h2⟩ =>
    ⟨e1, xd, nm, h1, fun H' e' => ⟨by rw [sizeLine_eq]; show 2 ≤ _; decide, fun t hT => h2 t H' e' hT⟩⟩
theorem ds_try {X : Cx} {fc : Fc} {x n tx : Str} {C0 : Addr} {i : Nat} {body suite : List Stmt} {b₀ : Stmt} {np pos pos' : Pos} {f : Dt → Option Out} {nmOf : Nat → Option Str} {g : Value → List PyData → Option Rs} (hs : X.stack = X.env :: X.outer) (hf : X.env.frame = some X.env.locals) (hN : X.N.Nodup) (hi : X.N[i]? = some n) (hln : X.env.kindOf n = some .local) (hc : Names X x (.ref C0)) (tk : Takes X fun cls d _ H => fc.E cls d H)
    (hb : ∀ (E' : XK) (pn : List (Addr × Obj)) (xe : Value → Shared → Prop), Takes (X.tr pn xe) (fun cls d _ H => E' cls d H) → PassesOwn (model X.prog X.w) X.A X.env xe → PSs (X.tr pn xe) body (tS { fc with E := E' } f))
    (hcl : ∀ c nm, nmOf c = some nm → PySem.W.exmOne X.K (.ref (fc.k.ec c)) (.ref C0) = some true ∧ g (.ref (fc.k.ec c)) [errD] = some (.ok (.str nm)))
    (hsu : ∀ (a : Addr) (oe : Obj) (cls : Value) (d : Option Addr) (pn : List (Addr × Obj)), Zc cls d oe → (∃ vs, oe.data = .fields vs) → PSs (X.suite a ((a, oe) :: pn)) (b₀ :: suite) (tSu fc.k.T i g tx a cls d)) (hlen : ∀ σ : L2.St, σ.length = X.N.length → i < σ.length) :
    PS X (.Try body [.ExceptHandler (some (.Name x np)) (some n) (b₀ :: suite) pos'] [] [] pos) (tS fc (stTry nmOf tx f)) := by
  have hps := ps_try_as (X := X) (ts := fun a cls d => tSu fc.k.T i g tx a cls d) (tb := fun W => tS { fc with E := fun cls d H => ∀ σ : L2.St, σ.length = X.N.length → W cls d σ H } f) (np := np) (pos := pos) (pos' := pos') hs hf hN hi hln hc tk
    (fun W pn xe tW po => hb _ pn xe (fun u s' ⟨a, B, sI, pins, σ, H, cls, d, e, I, nb, up, sky, na, os, ag, wq⟩ => tW u s' ⟨a, B, sI, pins, σ, H, cls, d, e, I, nb, up, sky, na, os, ag, wq σ I.len⟩) po) hsu
  refine ps_imp hps fun D σ H ⟨F, δ, o, b, xx, s, hf, q⟩ => ?_
  obtain ⟨o1, h1, h2⟩ := Option.bind_eq_some_iff.mp hf
  refine ⟨F, δ, o1, b, xx, s, h1, ?_⟩
  cases o1 with
  | nx δ' => cases h2; exact q
  | bk δ' => cases h2; exact q
  | ct δ' => cases h2; exact q
  | rt d δ' => cases h2; exact q
  | ex c δ' =>
    obtain ⟨nm, h3, rfl⟩ := Option.map_eq_some_iff.mp h2
    obtain ⟨c1, c2⟩ := hcl c nm h3
    intro F' H' dd b' m' xd σ' hl'
    refine ⟨true, c1, fun _ a na => ⟨by rw [List.getElem?_set_self (hlen σ' hl')], xd, nm, c2, fun t H2 e2 hT => ?_⟩, fun z => nomatch z⟩
    have n2 : Nx fc.k.T F' H' F' H2 := ⟨e2, .refl _, b'.fh.gr e2, fun _ _ _ z => z⟩
    have n3 := n2.trans (Nx.new (o := .tup [.str tx, .str nm]) n2.fh hT)
    exact q _ _ _ (b'.step n3) (fun p d hm e => (m' p d hm e).step n3) (.tup upd_same (.cons (.str _) (.cons (.str _) .nil)))
end Dl
set_option Elab.async false
set_option linter.all false
set_option maxRecDepth 100000
set_option maxHeartbeats 4000000
/-! sorted: whole numbers, lists of whole numbers. -/
namespace Dl
open PySem PySem.Spec PyProof.Rows L2
section
variable {X : Cx} {k : Cl}
def rSrt {D : Type} (K : PySem.W.Frag) (enc : D → PyData) : List V → Hp → VK → Prop := fun xs H Q => ∃ (a : Addr) (ps : List (V × D)), xs = [.ref a] ∧ H a = some (.lst (ps.map (·.1))) ∧ (∀ p ∈ ps, Dp K H p.1 (enc p.2)) ∧
  ∀ q, H q = none → Q (.ref q) (upd H q (.lst ((ps.mergeSort (PySem.W.dataLe false fun b : V × D => enc b.2)).map (·.1))))
theorem each_of {D : Type} {R : Value → V × D → Prop} : ∀ {us : List Value} {ps : List (V × D)}, Vals (ps.map (·.1)) us → (∀ p ∈ ps, ∀ u, RelV p.1 u → R u p) → PySem.W.EachIs R us ps
  | _, [], .nil, _ => .nil
  | _, p :: ps, .cons r t, h => .cons (h p List.mem_cons_self _ r) (each_of t fun q hq => h q (List.mem_cons_of_mem _ hq))
theorem vals_each {D : Type} : ∀ {us : List Value} {ps : List (V × D)}, PySem.W.EachIs (fun u p => RelV p.1 u) us ps → Vals (ps.map (·.1)) us
  | _, [], .nil => .nil
  | _, _ :: _, .cons h t => .cons h (vals_each t)
theorem cr_srt {D : Type} (enc : D → PyData) (hal : ∀ b b', PySem.W.alike (enc b) (enc b') = true) (hsk : ∀ bs : List D, PySem.W.Sortable (bs.map enc)) (hdep : ∀ d, (enc d).depth ≤ 1) (hu : X.A.units + 64 < cLine) : CallR X (.builtin "sorted") (rSrt X.K enc) := by
  intro pins s σ H vs us Q I r ⟨a, ps, ev, ha, hdp, q⟩
  subst ev
  obtain ⟨hz, its, n, rv, hob⟩ := I.hok a _ ha
  rw [Vals.ref1 r]
  have hl : s.heap.IsList a its.toArray := (show PlainL s.heap a its.toArray from ⟨_, n, hob, rfl, rfl, rfl⟩).isList
  have hlen : its.length = ps.length := by rw [← rv.length, List.length_map]
  refine PySem.W.sorted_data (bs := ps) (enc := fun b : V × D => enc b.2) (R := fun u p => RelV p.1 u) hl (each_of rv fun p _ u h => h) (each_of rv fun p hp u h => Dp.reads I _ _ _ (hdp p hp) h) ?_ ?_ (by rw [List.length_map] at hz; exact hz) (fun b _ => ?_) fun out ho eo => ?_
  · have e : ps.map (fun b : V × D => enc b.2) = (ps.map (·.2)).map enc := by rw [List.map_map] <;> rfl
    rw [e]
    exact PySem.W.AllAlike.of hal
  · have e : ps.map (fun b : V × D => enc b.2) = (ps.map (·.2)).map enc := by rw [List.map_map] <;> rfl
    rw [e]
    exact hsk _
  · have := hdep b.2
    omega
  · obtain ⟨ep, he⟩ := PyProof.Rows.sortedAll_at s.heap its out.toArray
    have rv2 := vals_each eo
    have l2 : ((ps.mergeSort (PySem.W.dataLe false fun b : V × D => enc b.2)).map (·.1)).length ≤ sizeLine := by
      rw [List.length_map, List.length_mergeSort]
      rw [List.length_map] at hz
      exact hz
    exact ⟨.ref _, upd H (s.heap.objs.size + 1) (.lst _), I.laid (t' := s.toks) (fun _ _ => PyProof.Rows.sortedAll_old) (Nat.le_succ _) ⟨l2, out, ep, rv2, he⟩, rfl, q _ (I.hok.fresh (Nat.le_succ _))⟩
/-- rows of whole numbers -/
def rowsOf : List PyData → Option (List (List Int))
  | [] => some []
  | .list l :: r => (intsOf l).bind fun a => (rowsOf r).map (a :: ·)
  | _ => none
abbrev encR (r : List Int) : PyData := .list (r.map .int)
theorem intsOf_eq : ∀ {ds : List PyData} {ns : List Int}, intsOf ds = some ns → ds = ns.map .int
  | [], _, h => by cases h; rfl
  | .int i :: r, _, h => by
    obtain ⟨m, e1, e2⟩ := Option.map_eq_some_iff.mp (show (intsOf r).map (i :: ·) = some _ from h)
    subst e2
    rw [intsOf_eq e1] <;> rfl
  | .none :: _, _, h => by cases h
  | .bool _ :: _, _, h => by cases h
  | .str _ :: _, _, h => by cases h
  | .list _ :: _, _, h => by cases h
  | .tuple _ :: _, _, h => by cases h
  | .dict _ :: _, _, h => by cases h
theorem rowsOf_eq : ∀ {ds : List PyData} {rs : List (List Int)}, rowsOf ds = some rs → ds = rs.map encR
  | [], _, h => by cases h; rfl
  | .list l :: r, _, h => by
    obtain ⟨a, e1, e2⟩ := Option.bind_eq_some_iff.mp (show (intsOf l).bind (fun a => (rowsOf r).map (a :: ·)) = some _ from h)
    obtain ⟨m, e3, e4⟩ := Option.map_eq_some_iff.mp e2
    subst e4
    rw [intsOf_eq e1, rowsOf_eq e3] <;> rfl
  | .none :: _, _, h => by cases h
  | .bool _ :: _, _, h => by cases h
  | .str _ :: _, _, h => by cases h
  | .int _ :: _, _, h => by cases h
  | .tuple _ :: _, _, h => by cases h
  | .dict _ :: _, _, h => by cases h
def srtR : List PyData → Option PyData
  | [.list l] => (rowsOf l).map fun rs => .list ((rs.mergeSort fun a b => decide (a ≤ b)).map encR)
  | _ => none
def srtI : List PyData → Option PyData
  | [.list l] => (intsOf l).map fun rs => .list ((rs.mergeSort fun a b => decide (a ≤ b)).map .int)
  | _ => none
theorem rpa_zip {F : Hp} {D : Type} {enc : D → PyData} : ∀ {xs : List V} {rs : List D}, RpA k F xs (rs.map enc) → ((xs.zip rs).map (·.1)) = xs ∧ ((xs.zip rs).map (·.2)) = rs ∧ ∀ p ∈ xs.zip rs, Rp k F p.1 (enc p.2)
  | _, [], .nil => ⟨rfl, rfl, fun p hp => by cases hp⟩
  | _, r :: rs, .cons h t => by
    obtain ⟨e1, e2, e3⟩ := rpa_zip t
    refine ⟨by rw [List.zip_cons_cons, List.map_cons, e1], by rw [List.zip_cons_cons, List.map_cons, e2], fun p hp => ?_⟩
    rcases List.mem_cons.mp hp with rfl | hp
    · exact h
    · exact e3 p hp
theorem rpa_of {F : Hp} {D : Type} {enc : D → PyData} : ∀ {ps : List (V × D)}, (∀ p ∈ ps, Rp k F p.1 (enc p.2)) → RpA k F (ps.map (·.1)) ((ps.map (·.2)).map enc)
  | [], _ => .nil
  | p :: ps, h => .cons (h p List.mem_cons_self) (rpa_of fun q hq => h q (List.mem_cons_of_mem _ hq))
theorem o_srt {D : Type} {enc : D → PyData} {K : PySem.W.Frag} {le : D → D → Bool} (hpl : ∀ d, plain (enc d) = true) (hle : PySem.W.dataLe false enc = le) {dec : List PyData → Option (List D)} (hdec : ∀ {ds rs}, dec ds = some rs → ds = rs.map enc) :
    OpA k (rSrt K enc) (fun ds => match ds with | [.list l] => (dec l).map fun rs => .list ((rs.mergeSort le).map enc) | _ => none) := fun F H xs ds d Q ex r hg q => by
  dsimp only at hg
  split at hg
  · rename_i l
    obtain ⟨rs, h1, h2⟩ := Option.map_eq_some_iff.mp hg
    subst h2
    cases r with
    | cons rx rn =>
      cases rn
      cases rx with
      | @lst a vs _ hF rA =>
        rw [hdec h1] at rA
        obtain ⟨e1, e2, e3⟩ := rpa_zip rA
        refine ⟨a, vs.zip rs, rfl, by rw [e1]; exact ex.e _ _ hF, fun p hp => ((e3 p hp).mono ex.e).dp (hpl _), fun t ht => ?_⟩
        have e4 : (((vs.zip rs).mergeSort (PySem.W.dataLe false fun b : V × D => enc b.2)).map (·.2)) = rs.mergeSort le := by
          have m := List.map_mergeSort (f := fun b : V × D => b.2) (r := PySem.W.dataLe false fun b : V × D => enc b.2) (s := le) (l := vs.zip rs) (fun a _ b _ => by rw [← hle] <;> rfl)
          rw [e2] at m
          exact m
        have e5 : RpA k F (((vs.zip rs).mergeSort (PySem.W.dataLe false fun b : V × D => enc b.2)).map (·.1)) ((rs.mergeSort le).map enc) := by
          rw [← e4]
          exact rpa_of fun p hp => e3 p ((List.mergeSort_perm _ _).mem_iff.mp hp)
        exact q _ _ _ (.new ex ht) (.lst upd_same (e5.mono (Ext.new (ex.back ht))))
  · cases hg
theorem plain_ints : ∀ r : List Int, plainAll (r.map .int) = true
  | [] => rfl
  | i :: r => by
    show (plain (.int i) && plainAll (r.map .int)) = true
    rw [plain_ints r]; rfl
theorem o_srtR {K : PySem.W.Frag} : OpA k (rSrt K encR) srtR := o_srt (fun d => by show plainAll _ = true; exact plain_ints d) (PySem.W.dataLe_rows (fun b : List Int => b)) rowsOf_eq
theorem o_srtI {K : PySem.W.Frag} : OpA k (rSrt K PyData.int) srtI := o_srt (fun d => rfl) (PySem.W.dataLe_int (fun b : Int => b)) intsOf_eq
theorem cr_srtR (hu : X.A.units + 64 < cLine) : CallR X (.builtin "sorted") (rSrt X.K encR) := cr_srt encR (fun b b' => PySem.W.alike_ints b b') (fun bs => PySem.W.Sortable.others fun b => ⟨(fun z => nomatch z), fun xs z => nomatch z⟩) (fun d => by
  show PyData.depth (.list (d.map .int)) ≤ 1
  rw [PyData.depth, PySem.W.depth_ints]
  exact Nat.le_refl _) hu
theorem cr_srtI (hu : X.A.units + 64 < cLine) : CallR X (.builtin "sorted") (rSrt X.K PyData.int) := cr_srt PyData.int (fun b b' => rfl) (fun bs => PySem.W.Sortable.others fun b => ⟨(fun z => nomatch z), fun xs z => nomatch z⟩) (fun d => by
  show PyData.depth (.int d) ≤ 1
  rw [PyData.depth] <;> decide) hu
end
end Dl
set_option Elab.async false
set_option linter.all false
set_option maxRecDepth 100000
set_option maxHeartbeats 4000000
/-! sorted with a key that may hold lists: what the keys' lists are stands below N. -/
namespace PySem.W
open PySem PySem.Calls PyProof.Rows
/-- a key call keeps all and gives k, whose lists lie below N -/
def KeyN (N : Nat) (k : PyData) (s₁ : Shared) (v : Value) (s₂ : Shared) : Prop := ∃ h' tk as, s₂ = { s₁ with heap := h', toks := tk } ∧ (∀ b o, s₁.heap.get? b = some o → h'.get? b = some o) ∧ Reads h' v k as ∧ ∀ x ∈ as, x < N
section
variable {prog : Program} {w : World} {A : Around} {E : Value → Shared → Prop} {s : Shared} {P : Fin → Shared → Prop} {a kS : Addr} {vs : List Value} {kz : List PyData} {b : Bool} {e1 : Nat} {N : Nat}
theorem keyN_rest {fn : Value} {g0 : Heap} (kb : KeepsBut a g0 s.heap) (free : g0.get? kS = none) (atK : s.heap.get? kS = some (seqObj "list" #[] 0)) (atA : s.heap.get? a = some (seqObj "list" #[] e1)) (ne : kS ≠ a) (below : N ≤ kS)
    (len : kz.length = vs.length) (big : vs.length ≤ sizeLine) (like : AllAlike kz) (can : Sortable kz) (deep : ∀ d, d ∈ kz → A.units + d.depth < cLine)
    (each : ∀ (i : Nat) (v : Value) (k : PyData), vs[i]? = some v → kz[i]? = some k → ∀ (g : Heap) (tk : Nat), KeepsBut a g0 g → wpAny (model prog w) A (call fn [v]) (KeyN N k { s with heap := g, toks := tk }) (fun _ _ => False) { s with heap := g, toks := tk })
    (fin : ∀ g tk out c, KeepsBut a g0 g → g.get? a = some (seqObj "list" (List.toArray out) c) → KeyedOut b kz vs out → P (.done (.ret .none)) { s with heap := g, toks := tk }) : wpAny (model prog w) A (ksk_rest a fn b vs.toArray e1 (.ref kS)) P E s := by
  unfold ksk_rest
  refine wpAny_bind (wpAny_rule ?_)
  first
  | rw [List.forIn_toArray]
  | (rw [← Array.forIn_toList]; simp only [List.toList_toArray])
  | rw [← Array.forIn_toList]
  let Ok : Heap → Value → PyData → Prop := fun g u d => (∃ as, Reads g u d as ∧ kS ∉ as) ∧ alike d d = true
  refine wpAny_bind (ksk_fold (fun i t => ∃ g tk ka e, t = { s with heap := g, toks := tk } ∧ KeepsBut a g0 g ∧ g.get? kS = some (seqObj "list" ka e) ∧ g.get? a = some (seqObj "list" #[] e1) ∧ EachIs (Ok g) ka.toList (kz.take i)) vs 0 s ⟨s.heap, s.toks, #[], 0, rfl, kb, atK, atA, by rw [List.take_zero]; exact EachIs.nil⟩ ?one ?two)
  case one =>
    rintro j v t hv ⟨g, tk, ka, e, rfl, kb1, atK1, atA1, ok⟩
    simp only [Nat.zero_add] at ok ⊢
    have lt : j < vs.length := (List.getElem?_eq_some_iff.mp hv).1
    obtain ⟨d, hd⟩ : ∃ d, kz[j]? = some d := ⟨_, List.getElem?_eq_getElem (by omega)⟩
    have dd : alike d d = true := like d (List.mem_of_getElem? hd) d (List.mem_of_getElem? hd)
    have small : ka.size ≤ vs.length := by
      have l1 := ok.length
      rw [Array.length_toList, List.length_take] at l1
      omega
    refine wpAny_bind (wpAny_attempt (wpAny_mono (each j v d hv hd g tk kb1) (fun u t2 he => ?_) fun _ _ no => no.elim))
    obtain ⟨g2, tk2, as, rfl, up, rd, low⟩ := he
    try dsimp only
    have atK2 : g2.get? kS = some (seqObj "list" ka e) := up _ _ atK1
    have atA2 : g2.get? a = some (seqObj "list" #[] e1) := up _ _ atA1
    have same := Heap.SameBut.update g2 kS (Obj.mapSeq (·.push u))
    obtain ⟨c2, at3⟩ : ∃ c2, (g2.update kS (Obj.mapSeq (·.push u))).get? kS = some (seqObj "list" (ka.push u) c2) := ⟨_, get?_update_seq atK2 (·.push u)⟩
    have tk1 : kz.take (j + 1) = kz.take j ++ [d] := by rw [List.take_add_one, hd]; simp
    have pk : (ka.push u).toList = ka.toList ++ [u] := by simp
    refine wpAny_bind (listUpdate_at atK2 rfl ?_ (Nat.le_trans small big) (Nat.le_trans (Nat.le_of_eq (Array.size_push ..)) (Nat.succ_le_succ (Nat.le_trans small big))))
    have stay : ∀ (z : Value) (q : PyData), Ok g2 z q → Ok (g2.update kS (Obj.mapSeq (·.push u))) z q := fun z q ⟨⟨zs, r1, r2⟩, r3⟩ =>
      ⟨⟨zs, Reads.keepBut (a := kS) (fun b o hb q => (same.2 b hb).trans q) (fun o q => by rw [atK2] at q; rw [← Option.some.inj q]) q z zs r3 r1 r2, r2⟩, r3⟩
    refine wpAny_pure ⟨rfl, _, _, ka.push u, c2, rfl, (kb1.trans_all up).same same (.inr free), at3, (same.2 a ne.symm).trans atA2, ?_⟩
    rw [pk, tk1]
    refine each_snoc (R := Ok (g2.update kS (Obj.mapSeq (·.push u)))) (stay u d ⟨⟨as, rd, fun z => absurd (low _ z) (Nat.not_lt.mpr below)⟩, dd⟩) ?_
    exact ok.mono fun z q ⟨⟨zs, r1, r2⟩, r3⟩ => stay z q ⟨⟨zs, PyProof.Rows.Reads.keeps up r1, r2⟩, r3⟩
  case two =>
    rintro t ⟨g, tk, ka, e, rfl, kb1, atK1, atA1, ok⟩
    have whole : EachIs (fun z q => ∃ as, Reads g z q as) ka.toList kz := by
      have all : kz.take (0 + vs.length) = kz := List.take_of_length_le (by omega)
      rw [all] at ok
      exact ok.mono fun z q ⟨⟨zs, r1, _⟩, _⟩ => ⟨zs, r1⟩
    have size : ka.size = vs.length := by
      have l1 := whole.length
      rw [Array.length_toList] at l1
      omega
    try dsimp only
    refine wpAny_bind (listItems_at atK1 rfl ?_)
    exact keyH_end (κ := dataKind g kz) (h₁ := g0) kb1 free atK1 atA1 ne (SortsAt.data (s := { s with heap := g, toks := tk }) whole like can deep) size big fun g3 tk3 c k3 n3 => fin g3 tk3 _ c k3 n3 ⟨g, ka.toList, like, rfl, whole⟩
theorem keyN_tree {fn : Value} {n : Nat} (at0 : s.heap.get? a = some (seqObj "list" vs.toArray n)) (below : N ≤ s.heap.objs.size) (len : kz.length = vs.length) (big : vs.length ≤ sizeLine) (like : AllAlike kz) (can : Sortable kz) (deep : ∀ d, d ∈ kz → A.units + d.depth < cLine)
    (each : ∀ (i : Nat) (v : Value) (k : PyData), vs[i]? = some v → kz[i]? = some k → ∀ (g : Heap) (tk : Nat), KeepsBut a s.heap g → wpAny (model prog w) A (call fn [v]) (KeyN N k { s with heap := g, toks := tk }) (fun _ _ => False) { s with heap := g, toks := tk })
    (fin : ∀ g tk out c, KeepsBut a s.heap g → g.get? a = some (seqObj "list" (List.toArray out) c) → KeyedOut b kz vs out → P (.done (.ret .none)) { s with heap := g, toks := tk }) : wpAny (model prog w) A (ksk_tree a fn b) P E s := by
  have la : a < s.heap.objs.size := Heap.lt_size at0
  obtain ⟨e1, at1⟩ : ∃ e1, (s.heap.update a (Obj.mapSeq fun _ => (#[] : Array Value))).get? a = some (seqObj "list" #[] e1) := ⟨_, get?_update_seq at0 fun _ => #[]⟩
  have sz : ((s.heap.update a (Obj.mapSeq fun _ => (#[] : Array Value))).push (seqObj "tuple" vs.toArray 0)).objs.size = s.heap.objs.size + 1 := by rw [size_push', Heap.size_update]
  unfold ksk_tree
  refine wpAny_bind (listItems_at at0 rfl (wpAny_bind (listUpdate_at at0 rfl ?_ (by rw [List.size_toArray]; exact big) (Nat.zero_le _))))
  refine wpAny_bind (seqEpoch_at at1 rfl (wpAny_bind (wpAny_newTuple ?_ (by show vs.length ≤ _; exact big))))
  refine wpAny_bind (wpAny_newList (wpAny_holding ?_) (Nat.zero_le _))
  have kb : KeepsBut a s.heap (sortingHeap s.heap a vs) := fun b o hb q => sortingHeap_old hb q
  exact keyN_rest (g0 := s.heap) (s := { s with heap := ((s.heap.update a (Obj.mapSeq fun _ => (#[] : Array Value))).push (seqObj "tuple" vs.toArray 0)).push (seqObj "list" #[] 0) }) (kS := ((s.heap.update a (Obj.mapSeq fun _ => (#[] : Array Value))).push (seqObj "tuple" vs.toArray 0)).objs.size) kb (Heap.get?_none_of_le (by rw [sz]; exact Nat.le_succ _)) (Heap.get?_push_size _ rfl)
    (Heap.get?_push_of_some _ (Heap.get?_push_of_some _ at1)) (by rw [sz]; exact Nat.ne_of_gt (Nat.lt_succ_of_lt la)) (by rw [sz]; exact Nat.le_succ_of_le below) len big like can deep each fin
end
section
variable {prog : Program} {w : World} {A : Around} {E : Value → Shared → Prop} {s : Shared} {β : Type} {vs : List Value} {bs : List β} {R : Value → β → Prop}
/-- sorted(xs, key=f) -/
theorem sorted_keyN {l q : Addr} {Q : Value → Shared → Prop} (k : β → PyData) (hl : s.heap.IsList l vs.toArray) (e : EachIs R vs bs) (like : AllAlike (bs.map k)) (can : Sortable (bs.map k)) (big : bs.length ≤ sizeLine) (deep : ∀ x, x ∈ bs → A.units + 2 + (k x).depth < cLine)
    (each : ∀ (v : Value) (x : β), R v x → x ∈ bs → ∀ (g : Heap) (tk : Nat), (∀ b o, s.heap.get? b = some o → g.get? b = some o) → wpAny (model prog w) A.in1.in1 (call (.ref q) [v]) (KeyN s.heap.objs.size (k x) { s with heap := g, toks := tk }) (fun _ _ => False) { s with heap := g, toks := tk })
    (fin : ∀ out c g tk, (∀ b o, s.heap.get? b = some o → g.get? b = some o) → g.get? (s.heap.objs.size + 1) = some (seqObj "list" (List.toArray out) c) → EachIs R out (bs.mergeSort (dataLe false k)) → Q (.ref (s.heap.objs.size + 1)) { s with heap := g, toks := tk }) :
    wpAny (model prog w) A (call (.builtin "sorted") [.ref l] [(Str.ofString "key", .ref q)]) Q E s := by
  have up : ∀ {g : Heap}, KeepsBut (s.heap.objs.size + 1) (copyHeap s.heap vs) g → ∀ b o, s.heap.get? b = some o → g.get? b = some o := fun {g} kb b o z => kb b o (Nat.ne_of_lt (Nat.lt_succ_of_lt (Heap.lt_size z))) (copyHeap_old z)
  refine sorted_of_sort hl (by rw [e.length]; exact big) (ksk_s1 _ _) (fun _ => ksk_l1 _ _) fun E' => ?_
  rw [ksk_t1]
  have at0 := copyHeap_at s.heap vs
  have below : s.heap.objs.size ≤ (copyHeap s.heap vs).objs.size := Nat.le_of_lt (Nat.lt_of_succ_lt (Heap.lt_size at0))
  refine keyN_tree (N := s.heap.objs.size) (b := false) (kz := bs.map k) (s := { s with heap := copyHeap s.heap vs }) at0 below (by rw [List.length_map]; exact e.length.symm) (by rw [e.length]; exact big) like can (bound_map (A := A.in1.in1) deep) (fun i v d hv hd g tk kb => ?_) fun g tk out c kb hD ko => ⟨rfl, fin out c g tk (up kb) hD (keyedOut_each k ko e)⟩
  rw [List.getElem?_map] at hd
  obtain ⟨x, hx, rfl⟩ := Option.map_eq_some_iff.mp hd
  have hz : (v, x) ∈ vs.zip bs := List.mem_of_getElem? (i := i) (by rw [List.getElem?_zip_eq_some]; exact ⟨hv, hx⟩)
  exact each v x (e.zip _ hz) (List.mem_of_getElem? hx) g tk (up kb)
end
end PySem.W
set_option Elab.async false
set_option linter.all false
set_option maxRecDepth 100000
set_option maxHeartbeats 4000000
/-! sorted(xs, key=lambda y: ..). -/
namespace Dl
open PySem PySem.Spec PyProof.Rows L2 LamX
section
variable {X : Cx} {pins : List (Addr × Obj)} {σ : L2.St} {H : Hp} {s : Shared}
/-- a lambda without captured names is made: its table may be written -/
theorem lam_made {T : Tb} {cd P : Addr} {params : Arguments} {body : Expr} {scope : Scope} {pos : Pos} {E : Value → Shared → Prop} {Q : Value → Shared → Prop} (I : Inv X pins σ H s) (TB : TabB X.base X.mg cd P) (hcode : X.env.code = .ref cd)
    (mem : (P, X.env.qual ++ "<lambda>") ∈ T) (one : ∀ p ∈ T, p.1 = P → p.2 = X.env.qual ++ "<lambda>") (tabs : Tabs T H) (nodef : defaultsOf params X.env = ([], [])) (nofree : ∀ y ∈ scope.names, y.2 ≠ .free)
    (fin : ∀ (f c2 : Addr) (pm ctv : Value) (H1 : Hp) (s' : Shared), Inv X pins σ H1 s' → Gr T H H1 → s'.heap.get? f = some (PySem.W.kla_obj "<lambda>" (X.env.qual ++ "<lambda>") params body scope (cloFrom X.env.cells scope.names []) pm c2 ctv) → H1 c2 = some (CodeO c2 (X.env.qual ++ "<lambda>")) → Q (.ref f) s') :
    wpAny (model X.prog X.w) X.A (eval (.Lambda params body scope pos) X.env) Q E s := by
  obtain ⟨ps, atP, tri, amg⟩ := tabs _ mem
  refine PySem.W.kla_eval nodef ?_
  have clo : ∀ y ∈ scope.names, y.2 = .free → ∃ c, X.env.cells.lookup y.1 = some c := fun y hy z => absurd z (nofree y hy)
  have rawP : s.heap.get? P = some { cls := .none, data := .fields ps } := I.hok P _ atP
  have blt : s.heap.BuiltinsAt X.mg P := TB.bm.keeps I.bk
  cases hit : codeAmong pos ps.toList with
  | some cv =>
    obtain ⟨c2, ec, atC⟩ := amg pos cv hit
    subst ec
    refine PySem.W.kla_makeFunctionHit (mg := X.mg) (c := cd) (P := P) (ps := ps) (closure_ok clo) I.ok.glob (I.mod.glob.keeps I.bk) hcode (TB.code.keeps I.bk) rawP tri hit blt fun ctv h' tk up sz => ?_
    exact fin h'.objs.size c2 ((X.mg "__name__").getD .none) ctv H _ (I.kept (t' := tk) fun b o e => Heap.get?_push_of_some _ (up b o e)) (Gr.refl T H) (Heap.get?_push_size _ rfl) atC
  | none =>
    refine PySem.W.kla_makeFunction (mg := X.mg) (c := cd) (P := P) (ps := ps) (closure_ok clo) I.ok.glob (I.mod.glob.keeps I.bk) hcode (TB.code.keeps I.bk) rawP tri hit TB.gP blt fun c2 ctv h' tk up ge lt rec newP => ?_
    obtain ⟨c3, oc, vs, tt, ec, atO, isF, named⟩ := rec
    cases ec
    have freeC : H c2 = none := I.hok.fresh ge
    have J := inv_table (t' := tk) (more := #[rawInt pos.line, rawInt pos.col, .ref c2]) (h' := h'.push (PySem.W.kla_obj "<lambda>" (X.env.qual ++ "<lambda>") params body scope (cloFrom X.env.cells scope.names []) ((X.mg "__name__").getD .none) c2 ctv)) I atP
      (fun b o nb e => Heap.get?_push_of_some _ (up b o nb e)) (Heap.get?_push_of_some _ newP) ge ⟨oc, vs, tt, Heap.get?_push_of_some _ atO, isF, named⟩
    have stays : ∀ b o, H b = some o → NT o → upd (upd H P (.tbl (ps ++ #[rawInt pos.line, rawInt pos.col, .ref c2]))) c2 (CodeO c2 (X.env.qual ++ "<lambda>")) b = some o := fun b o e nt => by
      rw [upd_ne (ne_of_none e freeC), upd_ne (fun z => nt ps (Option.some.inj (e.symm.trans (by rw [z]; exact atP))))]
      exact e
    have app : (ps ++ #[rawInt pos.line, rawInt pos.col, .ref c2]).toList = ps.toList ++ [rawInt pos.line, rawInt pos.col, .ref c2] := by simp
    refine fin h'.objs.size c2 ((X.mg "__name__").getD .none) ctv _ _ J ⟨stays, fun b qs e => ?_, fun _ p hp => ?_⟩ (Heap.get?_push_size _ rfl) upd_same
    · rw [upd_ne (ne_of_none e freeC)]
      by_cases z : b = P
      · subst z
        exact ⟨_, upd_same⟩
      · rw [upd_ne z]
        exact ⟨qs, e⟩
    · by_cases z : p.1 = P
      · rw [one p hp z, z]
        refine ⟨_, by rw [upd_ne (ne_of_none atP freeC), upd_same], by rw [app]; exact PySem.TriplesOk_snoc _ _ _ _ tri, fun p2 cv h2 => ?_⟩
        rw [app] at h2
        rcases among_app _ tri h2 with y | y
        · obtain ⟨c0, a1, a2⟩ := amg p2 cv y
          exact ⟨c0, a1, stays _ _ a2 codeO_ne⟩
        · exact ⟨c2, y, upd_same⟩
      · obtain ⟨qs, a1, a2, a3⟩ := tabs p hp
        refine ⟨qs, by rw [upd_ne (ne_of_none a1 freeC), upd_ne z]; exact a1, a2, fun p2 cv h2 => ?_⟩
        obtain ⟨c0, b1, b2⟩ := a3 p2 cv h2
        exact ⟨c0, b1, stays _ _ b2 codeO_ne⟩
/-- .. and called with one value -/
theorem lam_call {f c2 : Addr} {pm ctv : Value} {y : Str} {params : Arguments} {body : Expr} {scope : Scope} {A : Around} {v : Value} {g : Heap} {tk : Nat} {Q : Value → Shared → Prop} (I : Inv X pins σ H s) (hf : s.heap.get? f = some (PySem.W.kla_obj "<lambda>" (X.env.qual ++ "<lambda>") params body scope [] pm c2 ctv)) (hc : H c2 = some (CodeO c2 (X.env.qual ++ "<lambda>")))
    (kind : scope.kind = .function) (co : scope.isCoroutine = false) (gen : scope.isGenerator = false) (nocell : ∀ x ∈ scope.names, x.2 ≠ .cell) (loc : scope.names.lookup y = some .local) (bind : ∀ (u : Value) (q : Str) (cl : List (Str × Addr)) (pm cv ctv : Value), bindArgs (PySem.W.kla_fn "<lambda>" q params body scope cl pm cv ctv) ⟨[u], []⟩ = pure [(y, u)])
    (room : A.depth < recursionLimit) (up : ∀ b o, s.heap.get? b = some o → g.get? b = some o)
    (run : ∀ (g1 : Heap) (tk1 : Nat), g1.Ns g.objs.size (fun z => [(y, v)].reverse.lookup z) → (∀ b o, g.get? b = some o → g1.get? b = some o) →
      wpAny (model X.prog X.w) (A.deeper (PySem.W.envX (X.env.qual ++ "<lambda>") scope g.objs.size f (.ref c2) [])) (eval body (PySem.W.envX (X.env.qual ++ "<lambda>") scope g.objs.size f (.ref c2) [])) Q (fun _ _ => False) { s with heap := g1, toks := tk1 }) :
    wpAny (model X.prog X.w) A (call (.ref f) [v]) Q (fun _ _ => False) { s with heap := g, toks := tk } := by
  obtain ⟨⟨oc, vs, t, atO, isF, named⟩, _, _⟩ := I.hok c2 _ hc
  refine wpAny_call (PySem.W.kla_callFunE room (up _ _ hf) rfl co gen rfl ⟨c2, oc, vs, t, rfl, up _ _ atO, isF, named⟩ ?_)
  rw [bind]
  refine wpAny_pure (wpAny_newFunctionEnv nocell (fun z hz => ?_) (fun g1 ns same => ⟨(I.nolimit.keeps up).fresh _ same, ?_⟩) kind)
  · have e : z = (y, v) := by simpa using hz
    rw [e]
    exact loc
  · show codeAny _ _ (.expr body (PySem.W.envX (X.env.qual ++ "<lambda>") scope g.objs.size f (.ref c2) [])) _ _
    have up1 : ∀ b o, g.get? b = some o → g1.get? b = some o := fun b o e => same.extBut b o (Nat.ne_of_lt (Heap.lt_size e)) (Heap.get?_push_of_some _ e)
    exact PySem.W.kla_codeExpr (wpAny_mono (run g1 _ ns up1) (fun _ _ z => z) fun _ _ z => z.elim)
end
/-- how the body gives the key of an item that stands so -/
def KeyRun {D : Type} (X : Cx) (y : Str) (body : Expr) (scope : Scope) (key : D → PyData) (R : Heap → Value → D → Prop) : Prop :=
  L2.Mod X.K X.mg X.base → ∀ (A : Around) (s : Shared) (L f c2 N : Nat) (v : Value) (d : D), s.heap.Ns L (fun z => [(y, v)].reverse.lookup z) → (∀ b o, X.base.get? b = some o → s.heap.get? b = some o) → (∃ g : Heap, g.objs.size = N ∧ (∀ b o, g.get? b = some o → s.heap.get? b = some o) ∧ R g v d) →
    wpAny (model X.prog X.w) A (eval body (PySem.W.envX (X.env.qual ++ "<lambda>") scope L f (.ref c2) [])) (PySem.W.KeyN N (key d) s) (fun _ _ => False) s
section
variable {X : Cx} {k : Cl} {ow : List Nat} {D : Type} {enc key : D → PyData} {dec : List PyData → Option (List D)} {x y : Str} {p pos lpos kpos : Pos} {e body : Expr} {params : Arguments} {scope : Scope} {fa : Dt → Option PyData} {cd P : Addr} {lv : Nat}
def srtK {D : Type} (enc key : D → PyData) (dec : List PyData → Option (List D)) : PyData → Option PyData
  | .list l => (dec l).map fun rs => .list ((rs.mergeSort (PySem.W.dataLe false key)).map enc)
  | _ => none
theorem d_sortKey {R : Heap → Value → D → Prop} (hdec : ∀ {ds rs}, dec ds = some rs → ds = rs.map enc) (hpl : ∀ d, plain (enc d) = true) (like : ∀ b b', PySem.W.alike (key b) (key b') = true) (can : ∀ bs : List D, PySem.W.Sortable (bs.map key)) (deep : ∀ d, (key d).depth ≤ 2)
    (hR : ∀ h v d as, Reads h v (enc d) as → R h v d) (run : KeyRun X y body scope key R)
    (hr : Room lv X.A) (hg : Gl X x) (hm : X.mg x = none) (hv : bootBuiltins x = some (.builtin "sorted")) (ha : PE X e (tD k ow fa)) (TB : TabB X.base X.mg cd P) (hcode : X.env.code = .ref cd)
    (mem : (P, X.env.qual ++ "<lambda>") ∈ k.T) (one : ∀ p ∈ k.T, p.1 = P → p.2 = X.env.qual ++ "<lambda>") (nodef : defaultsOf params X.env = ([], [])) (nofree : ∀ y ∈ scope.names, y.2 ≠ .free) (clo0 : cloFrom X.env.cells scope.names [] = [])
    (kind : scope.kind = .function) (co : scope.isCoroutine = false) (gen : scope.isGenerator = false) (nocell : ∀ x ∈ scope.names, x.2 ≠ .cell) (loc : scope.names.lookup y = some .local) (bind : ∀ (u : Value) (q : Str) (cl : List (Str × Addr)) (pm cv ctv : Value), bindArgs (PySem.W.kla_fn "<lambda>" q params body scope cl pm cv ctv) ⟨[u], []⟩ = pure [(y, u)])
    (hn : x ≠ "__name__" := by decide) (hdb : (x == ("__debug__" : Str)) = false := by decide)
    (he : backTo pos (starEach [e] X.env) = (false, eval e X.env) :: backTo pos (starEach [] X.env) := by rfl) (hst : starEach [e] X.env = (false, eval e X.env) :: starEach [] X.env := by rfl) (hpl2 : (backTo pos (starEach [e] X.env)).any (·.1) = false := by rfl)
    (hall : (backToKw pos (keywordEach [⟨some "key", .Lambda params body scope lpos, kpos⟩] X.env)).all (·.1.isSome) = true := by rfl) (hnone : (backToKw pos (keywordEach [⟨some "key", .Lambda params body scope lpos, kpos⟩] X.env)).any (·.1.isNone) = false := by rfl) (hks : (backToKw pos (keywordEach [⟨some "key", .Lambda params body scope lpos, kpos⟩] X.env)).filterMap (·.1) = [Str.ofString "key"] := by rfl) :
    PE X (.Call (.Name x p) [e] [⟨some "key", .Lambda params body scope lpos, kpos⟩] pos) (tD k ow (b1 (srtK enc key dec) fa)) := by
  refine ⟨fun pins s σ H Q I ⟨me, H0, F, δ, d, ex, xx, hf, q⟩ => ?_⟩
  obtain ⟨d1, h1, h2⟩ := Option.bind_eq_some_iff.mp hf
  unfold srtK at h2
  split at h2
  · rename_i l
    obtain ⟨rs, h3, h4⟩ := Option.map_eq_some_iff.mp h2
    subst h4
    refine wpAny_Call_Name_kw (ld_blt I hg hm hv ?_ hn hdb)
    refine PyProof.Rows.callWith_kw (thn ((pa_cons ha pa_nil hst).run pos pins s σ H (fun vs H1 => ∃ v F1, vs = [v] ∧ Nx k.T F H F1 H1 ∧ Rp k F1 v (.list l)) I ⟨me, H0, F, δ, _, ex, xx, h1, fun v F1 H1 n1 r1 => ⟨v, F1, rfl, n1, r1⟩⟩) fun us s1 ⟨vs, H1, I1, rv, v, F1, ev, n1, r1⟩ => ?_) he hpl2 hall hnone
    subst ev
    rw [hks]
    show wpAny _ _ (evalAll ((do let v ← eval (.Lambda params body scope lpos) X.env; standAt pos; pure v) :: [])) _ _ s1
    refine wpAny_evalAll_cons (wpAny_bind (lam_made I1 TB hcode mem one (n1.h.ts xx.tab) nodef nofree fun f c2 pm ctv H2 s2 I2 g12 atF atC => wpAny_bind (wpAny_standAt (wpAny_pure (wpAny_evalAll_nil ?_)))))
    cases rv with
    | cons rx rn =>
    cases rn
    rw [clo0] at atF
    cases r1 with
    | @lst a xs _ hF rA =>
    cases rx
    show wpAny _ _ (call (.builtin "sorted") [.ref a] [(Str.ofString "key", .ref f)]) _ _ s2
    have n2 : Nx k.T F1 H1 F1 H2 := ⟨g12, Ext.refl _, n1.fh.gr g12, fun _ _ _ z => z⟩
    have hH2 : H2 a = some (.lst xs) := n2.fh.e _ _ hF
    obtain ⟨hz, its, n, rv, hob⟩ := I2.hok a _ hH2
    have hl : s2.heap.IsList a its.toArray := (show PlainL s2.heap a its.toArray from ⟨_, n, hob, rfl, rfl, rfl⟩).isList
    rw [hdec h3] at rA
    obtain ⟨e1, e2, e3⟩ := rpa_zip rA
    have lenx : (xs.zip rs).length = xs.length := by
      have z := congrArg List.length e1
      rw [List.length_map] at z
      exact z
    rw [← e1] at rv
    refine PySem.W.sorted_keyN (bs := xs.zip rs) (R := fun u p => RelV p.1 u ∧ R s2.heap u p.2) (fun p : V × D => key p.2) hl (each_of rv fun p hp u h => ⟨h, ?_⟩) ?_ ?_ (by rw [lenx]; exact hz) (fun b _ => ?_) (fun u p ⟨hu, hRu⟩ hp g tk up => ?_) fun out c g tk up hD eo => ?_
    · obtain ⟨as, rd⟩ := Dp.reads I2 _ _ _ (((e3 p hp).mono n2.fh.e).dp (hpl _)) h
      exact hR _ _ _ _ rd
    · have e : (xs.zip rs).map (fun b : V × D => key b.2) = ((xs.zip rs).map (·.2)).map key := by rw [List.map_map] <;> rfl
      rw [e]
      exact PySem.W.AllAlike.of like
    · have e : (xs.zip rs).map (fun b : V × D => key b.2) = ((xs.zip rs).map (·.2)).map key := by rw [List.map_map] <;> rfl
      rw [e]
      exact can _
    · have := deep b.2
      have := hr.units
      omega
    · refine lam_call I2 atF atC kind co gen nocell loc bind (by show X.A.depth < _; exact hr.depth) up fun g1 tk1 ns up1 => ?_
      refine wpAny_mono (run I2.mod _ { s2 with heap := g1, toks := tk1 } g.objs.size f c2 s2.heap.objs.size u p.2 ns (fun b o z => up1 b o (up b o (I2.bk b o z))) ⟨s2.heap, rfl, fun b o z => up1 b o (up b o z), hRu⟩) (fun w s3 hw => ?_) fun _ _ z => z
      · obtain ⟨g3, tk3, as, rfl, up3, rd, low⟩ := hw
        exact ⟨g3, tk3, as, rfl, fun b o z => up3 b o (up1 b o z), rd, low⟩
    · have e4 : (((xs.zip rs).mergeSort (PySem.W.dataLe false fun b : V × D => key b.2)).map (·.2)) = rs.mergeSort (PySem.W.dataLe false key) := by
        have m := List.map_mergeSort (f := fun b : V × D => b.2) (r := PySem.W.dataLe false fun b : V × D => key b.2) (s := PySem.W.dataLe false key) (l := xs.zip rs) (fun a _ b _ => rfl)
        rw [e2] at m
        exact m
      have e5 : RpA k F1 (((xs.zip rs).mergeSort (PySem.W.dataLe false fun b : V × D => key b.2)).map (·.1)) ((rs.mergeSort (PySem.W.dataLe false key)).map enc) := by
        rw [← e4]
        exact rpa_of fun p hp => e3 p ((List.mergeSort_perm _ _).mem_iff.mp hp)
      have rv2 : Vals (((xs.zip rs).mergeSort (PySem.W.dataLe false fun b : V × D => key b.2)).map (·.1)) out := vals_each (eo.mono fun _ _ z => z.1)
      have l2 : (((xs.zip rs).mergeSort (PySem.W.dataLe false fun b : V × D => key b.2)).map (·.1)).length ≤ sizeLine := by
        rw [List.length_map, List.length_mergeSort, lenx]
        exact hz
      have hn2 : H2 (s2.heap.objs.size + 1) = none := I2.hok.fresh (Nat.le_succ _)
      have nn := (n1.trans n2).trans (Nx.new (o := .lst (((xs.zip rs).mergeSort (PySem.W.dataLe false fun b : V × D => key b.2)).map (·.1))) n2.fh hn2)
      exact ⟨.ref _, _, I2.laid (o := .lst (((xs.zip rs).mergeSort (PySem.W.dataLe false fun b : V × D => key b.2)).map (·.1))) (t' := tk) up (Nat.le_succ _) ⟨l2, out, c, rv2, hD⟩, rfl, q _ _ _ nn (.lst upd_same (e5.mono (Ext.new (n2.fh.back hn2))))⟩
  · cases h2
end
end Dl
set_option Elab.async false
set_option linter.all false
set_option maxRecDepth 100000
set_option maxHeartbeats 4000000
/-! The two keys: look[1], and (len(part), part). -/
namespace Dl
open PySem PySem.Spec PyProof.Rows L2 LamX
/-! ### tuples of whole numbers, at least two -/
abbrev T2 := Int × Int × List Int
abbrev encT (d : T2) : PyData := .tuple (.int d.1 :: .int d.2.1 :: d.2.2.map .int)
def tups2 : List PyData → Option (List T2)
  | [] => some []
  | .tuple (.int a :: .int b :: r) :: l => (intsOf r).bind fun c => (tups2 l).map ((a, b, c) :: ·)
  | _ => none
theorem tups2_eq {ds : List PyData} : ∀ {rs : List T2}, tups2 ds = some rs → ds = rs.map encT := by
  fun_induction tups2 ds with
  | case1 => intro rs h; cases h; rfl
  | case2 a b r l ih =>
    intro rs h
    obtain ⟨c, e1, e2⟩ := Option.bind_eq_some_iff.mp h
    obtain ⟨m, e3, e4⟩ := Option.map_eq_some_iff.mp e2
    subst e4
    rw [intsOf_eq e1, ih e3] <;> rfl
  | case3 => intro rs h; cases h
def RT (h : Heap) (v : Value) (d : T2) : Prop := ∃ (t : Addr) (its : Array Value) (tk : Tok), v = .ref t ∧ IsTup h t its ∧ its[1]? = some (.int d.2.1 tk)
theorem rt_of (h : Heap) (v : Value) (d : T2) (as : List Addr) (r : Reads h v (encT d) as) : RT h v d := by
  cases r with
  | @tuple a o vs n xs as h1 h2 h3 h4 =>
    obtain ⟨l⟩ := vs
    cases h4 with
    | @cons v1 l1 _ _ as1 bs1 r1 r2 =>
      cases r2 with
      | @cons v2 l2 _ _ as2 bs2 r3 r4 =>
        cases r3 with
        | int i t => exact ⟨a, _, t, rfl, ⟨o, h1, h2, n, h3⟩, rfl⟩
theorem keyrun_ix {X : Cx} {y : Str} {scope : Scope} {kk : Nat} {p1 p2 p3 : Pos} (kind : scope.kind = .function) (loc : scope.names.lookup y = some .local) (hdb : (y == ("__debug__" : Str)) = false) : KeyRun X y (.Subscript (.Name y p1) (.Constant (.int 1) kk p2) p3) scope (fun d : T2 => .int d.2.1) RT := by
  intro _ A s L f c2 N v d ns kb ⟨g, hg, up, t, its, tk, ev, it, i1⟩
  subst ev
  refine PyProof.Rows.Subscript_ (wpAny_Name (wpAny_loadName_local kind loc ns (v := .ref t) (by simp [List.lookup]) ?_) hdb)
  refine wpAny_Constant_int ?_
  have it2 : IsTup s.heap t its := it.keeps up
  have sz : 1 < its.size := (Array.getElem?_eq_some_iff.mp i1).1
  refine subscriptTail_builtinR (x := .int d.2.1 tk) (s := { s with toks := s.toks + 1 }) ⟨_, it2.choose_spec.1, it2.choose_spec.2.1⟩ slot_tuple_getitem.lookup (getItem_tuple (j := 1) (Q := fun r s' => r = .int d.2.1 tk ∧ PySem.W.KeyN N (.int d.2.1) s r s') (s := { s with toks := s.toks + 1 }) it2 (by decide) (by decide) ?_ i1 ⟨rfl, s.heap, s.toks + 1, [], rfl, fun _ _ z => z, .int _ _, fun x hx => absurd hx (by simp)⟩) rfl
  unfold seqIndex?
  simp
  omega
/-! ### lists of whole numbers by length, then by themselves -/
abbrev SL := { r : List Int // r.length ≤ 1000 }
def keyP (r : SL) : PyData := .tuple [.int (r.1.length : Int), encR r.1]
abbrev encS (r : SL) : PyData := encR r.1
def rowsS : List PyData → Option (List SL)
  | [] => some []
  | .list l :: r => (intsOf l).bind fun a => if h : a.length ≤ 1000 then (rowsS r).map (⟨a, h⟩ :: ·) else none
  | _ => none
theorem rowsS_eq {ds : List PyData} : ∀ {rs : List SL}, rowsS ds = some rs → ds = rs.map encS := by
  fun_induction rowsS ds with
  | case1 => intro rs h; cases h; rfl
  | case2 l r ih =>
    intro rs h
    obtain ⟨a, e1, e2⟩ := Option.bind_eq_some_iff.mp h
    split at e2
    · rename_i hl
      obtain ⟨m, e3, e4⟩ := Option.map_eq_some_iff.mp e2
      subst e4
      rw [intsOf_eq e1, ih e3] <;> rfl
    · cases e2
  | case3 => intro rs h; cases h
def RL (h : Heap) (v : Value) (d : SL) : Prop := ∃ (l : Addr) (o : Obj) (its : Array Value) (n : Nat), v = .ref l ∧ h.get? l = some o ∧ o.cls = .type "list" ∧ o.data = .seq its n ∧ ReadsAll h its.toList (d.1.map .int) [] ∧ its.size = d.1.length
theorem ints_foot {h : Heap} : ∀ {ns : List Int} {vs : List Value} {as : List Addr}, ReadsAll h vs (ns.map .int) as → as = [] ∧ vs.length = ns.length
  | [], _, _, .nil => ⟨rfl, rfl⟩
  | i :: ns, _, _, .cons r t => by
    obtain ⟨e1, e2⟩ := ints_foot t
    cases r with
    | int i t => exact ⟨by rw [e1] <;> rfl, by rw [List.length_cons, e2] <;> rfl⟩
theorem rl_of (h : Heap) (v : Value) (d : SL) (as : List Addr) (r : Reads h v (encS d) as) : RL h v d := by
  cases r with
  | @list a o vs n xs as h1 h2 h3 h4 =>
    obtain ⟨e1, e2⟩ := ints_foot h4
    rw [e1] at h4
    exact ⟨a, o, vs, n, rfl, h1, h2, h3, h4, by rw [← e2, Array.length_toList]⟩
theorem keyrun_len {X : Cx} {y x : Str} {scope : Scope} {x1 : Nat} {p1 p2 p3 p4 p5 : Pos} (hm : X.mg x = none) (hv : bootBuiltins x = some (.builtin "len")) (hn : x ≠ "__name__") (kind : scope.kind = .function) (gl : scope.names.lookup x = some .globalImplicit) (loc : scope.names.lookup y = some .local) (hdb : (y == ("__debug__" : Str)) = false) (hdx : (x == ("__debug__" : Str)) = false) :
    KeyRun X y (.Tuple [.Call (.Name x p1) [.Name y p2] [] p3, .Name y p4] x1 p5) scope keyP RL := by
  intro Mo A s L f c2 N v d ns kb ⟨g, hg, up, l, o, its, n, ev, h1, h2, h3, h4, h5⟩
  subst ev
  obtain ⟨mb, hmb, hbt⟩ := Mo.blt
  have ly : ∀ {s' : Shared} {Q : Value → Shared → Prop} {E : Value → Shared → Prop} {p : Pos}, s'.heap = s.heap → Q (.ref l) s' → wpAny (model X.prog X.w) A (eval (.Name y p) (PySem.W.envX (X.env.qual ++ "<lambda>") scope L f (.ref c2) [])) Q E s' := fun {s' Q E p} es q => wpAny_Name (wpAny_loadName_local kind loc (by rw [es]; exact ns) (v := .ref l) (by simp [List.lookup]) q) hdb
  refine wpAny_Tuple_spliced ?_
  refine Calls.spliced_cons (Call_ ?_)
  refine Calls.Name_function_global kind gl (Calls.loadGlobal_builtin (Mo.glob.keeps kb) hm (hmb.keeps kb) ((hbt x hn).trans hv) ?_) hdx
  refine PyProof.Rows.callWith_builtin1 ?_
  refine Calls.spliced_cons (ly rfl (Calls.spliced_nil ?_))
  have small : (its.size : Int) < 2 ^ 63 := by
    have := d.2
    have z := h5
    omega
  refine Calls.call_len_list (⟨o, up _ _ h1, h2, n, h3⟩ : s.heap.IsList l its) small ?_
  refine Calls.spliced_cons (ly rfl (Calls.spliced_nil ⟨by rw [sizeLine_eq]; simp, ?_⟩))
  refine ⟨_, _, [l], rfl, fun b ob z => Heap.get?_push_of_some _ z, ?_, fun z hz => by
    have e : z = l := by simpa using hz
    rw [e, ← hg]
    exact Heap.lt_size h1⟩
  have up2 : ∀ b ob, g.get? b = some ob → (s.heap.push { cls := .type "tuple", data := .seq #[.int its.size (s.toks + 1), .ref l] }).get? b = some ob := fun b ob z => Heap.get?_push_of_some _ (up _ _ z)
  have r1 : Reads (s.heap.push { cls := .type "tuple", data := .seq #[.int its.size (s.toks + 1), .ref l] }) (.ref l) (encS d) [l] := by
    have z := Reads.list (up2 _ _ h1) h2 h3 (PyProof.Rows.ReadsAll.keeps up2 h4)
    exact z
  have r2 : Reads (s.heap.push { cls := .type "tuple", data := .seq #[.int its.size (s.toks + 1), .ref l] }) (.int its.size (s.toks + 1)) (.int (d.1.length : Int)) [] := by
    rw [h5]
    exact .int _ _
  have z := Reads.tuple (h := s.heap.push { cls := .type "tuple", data := .seq #[.int its.size (s.toks + 1), .ref l] }) (a := s.heap.objs.size) (Heap.get?_push_size _ rfl) rfl rfl (ReadsAll.cons r2 (ReadsAll.cons r1 .nil))
  exact z
theorem likeP (b b' : SL) : PySem.W.alike (keyP b) (keyP b') = true := by
  show (true && ((PySem.W.alikeAll (b.1.map .int) (b'.1.map .int)) && true)) = true
  rw [PySem.W.alike_ints]; rfl
theorem canP (bs : List SL) : PySem.W.Sortable (bs.map keyP) := PySem.W.Sortable.tuples fun b => ⟨_, _, rfl⟩
theorem deepP (d : SL) : (keyP d).depth ≤ 2 := by
  show PyData.depth (.tuple [.int (d.1.length : Int), .list (d.1.map .int)]) ≤ 2
  simp [PyData.depth, PyData.depthAll, PySem.W.depth_ints]
end Dl
set_option Elab.async false
set_option linter.all false
set_option maxRecDepth 100000
set_option maxHeartbeats 4000000
/-! repr of data. -/
namespace Dl
open PySem PySem.Spec PyProof.Rows L2
section
variable {X : Cx} {k : Cl}
def repOk (d : PyData) : Bool := plain d && d.showable && !d.hasDict && decide (d.depth ≤ 8) && decide (d.shown.length ≤ sizeLine) && (match d with
  | .list _ => true
  | .tuple _ => true
  | _ => false)
def repG : List PyData → Option PyData
  | [d] => if repOk d = true then some (.str d.shown) else none
  | _ => none
def rRep (K : PySem.W.Frag) : List V → Hp → VK → Prop := fun xs H Q => ∃ (v : V) (d : PyData), xs = [v] ∧ Dp K H v d ∧ repOk d = true ∧ Q (.str d.shown) H
theorem cr_rep (hg : X.A.guards = some []) (hu : X.A.units + 64 < cLine) : CallR X (.builtin "repr") (rRep X.K) := by
  intro pins s σ H vs us Q I r ⟨v, d, ev, hd, ok, q⟩
  subst ev
  obtain ⟨u, rfl, ru⟩ := vals1 r
  unfold repOk at ok
  simp only [Bool.and_eq_true, decide_eq_true_eq, Bool.not_eq_true'] at ok
  obtain ⟨⟨⟨⟨⟨h1, h2⟩, h3⟩, h4⟩, h5⟩, h6⟩ := ok
  obtain ⟨as, rd⟩ := Dp.reads I _ _ _ hd ru
  have isRef : ∃ a, u = .ref a := by
    cases rd <;> first | exact ⟨_, rfl⟩ | cases h6
  obtain ⟨a, rfl⟩ := isRef
  refine repr_of_reads' rd h2 (fun z => by rw [h3] at z; cases z) hg (by omega) (fun _ _ z => z) (fun h' u tk up => ?_) h5
  exact ⟨.str d.shown, H, I.kept (t' := tk) up, ⟨_, rfl⟩, q⟩
theorem o_rep {K : PySem.W.Frag} : OpA k (rRep K) repG := fun F H xs ds d Q ex r hg q => by
  unfold repG at hg
  split at hg
  · rename_i d0
    split at hg
    · rename_i ok
      cases hg
      cases r with
      | cons rx rn =>
        cases rn
        have hp : plain d0 = true := by
          unfold repOk at ok
          simp only [Bool.and_eq_true] at ok
          exact ok.1.1.1.1.1
        exact ⟨_, d0, rfl, (rx.mono ex.e).dp hp, ok, q _ F H (.refl ex) (.str _)⟩
    · cases hg
  · cases hg
end
end Dl
set_option Elab.async false
set_option linter.all false
set_option maxRecDepth 100000
set_option maxHeartbeats 4000000
/-! Short words for the printed walks. -/
namespace Dl
open PySem PySem.Spec PyProof.Rows L2
section
variable {X : Cx} {k : Cl} {ow : List Nat} {e a b : Expr} {fa fb : Dt → Option PyData} {pos p : Pos} {kk : Nat}
theorem d_int {i : Int} : PE X (.Constant (.int i) kk pos) (tD k ow (cD (.int i))) := d_const pe_int fun _ => .int _
theorem d_str {x : Str} : PE X (.Constant (.str x) kk pos) (tD k ow (cD (.str x))) := d_const pe_str fun _ => .str _
theorem d_non : PE X (.Constant .none kk pos) (tD k ow (cD .none)) := d_const pe_non fun _ => .non
theorem d_bl {c : Bool} : PE X (.Constant (.bool c) kk pos) (tD k ow (cD (.bool c))) := d_const pe_bl fun _ => .bl _
/-- a module's whole number -/
theorem d_cst {x : Str} {n : Int} (h : ∃ t, X.mg x = some (.int n t)) (hg : Gl X x) (hd : (x == ("__debug__" : Str)) = false := by decide) : PE X (.Name x p) (tD k ow (cD (.int n))) := by
  obtain ⟨t, h⟩ := h
  exact d_const (pe_glob hg h (show RelV (.int n) (.int n t) from ⟨t, rfl⟩) hd) fun _ => .int _
def fIdx : List Bool → Option Nat
  | [] => none
  | true :: _ => some 0
  | false :: r => (fIdx r).map (· + 1)
theorem fIdx_some : ∀ {l : List Bool} {j : Nat}, fIdx l = some j → l[j]? = some true ∧ ∀ m, m < j → l[m]? = some false
  | true :: _, _, h => by cases h; exact ⟨rfl, fun m h => absurd h (Nat.not_lt_zero m)⟩
  | false :: r, _, h => by
    obtain ⟨i, h1, rfl⟩ := Option.map_eq_some_iff.mp (show (fIdx r).map (· + 1) = some _ from h)
    obtain ⟨h2, h3⟩ := fIdx_some h1
    refine ⟨by simpa using h2, fun m hm => ?_⟩
    cases m with
    | zero => rfl
    | succ m => simpa using h3 m (by omega)
def idxD (x y : PyData) : Option PyData := match x, y with
  | .list l, .bool true => (boolsOf l).bind fun bs => (fIdx bs).map fun j => .int (j : Nat)
  | _, _ => none
theorem all_flat : ∀ bs : List Bool, (bs.map V.bl).all flatV = true
  | [] => rfl
  | _ :: r => by
    show (true && (r.map V.bl).all flatV) = true
    rw [all_flat r]; rfl
theorem d_index {apos : Pos} (ho : PE X a (tD k ow fa)) (hb : PE X b (tD k ow fb)) (hbase : attributeBase a "index" X.env (eval a X.env) = eval a X.env := by rfl)
    (hfew : ((backTo pos (starEach [b] X.env)).all (fun x => !x.1) && (backToKw pos (keywordEach [] X.env)).all (fun x => x.1.isSome) && decide ([b].length + ([] : List Keyword).length + (if ([] : List Keyword).isEmpty then 0 else 1) < 30)) = true := by rfl)
    (hline : (apos.endLine == pos.line) = true := by rfl) (hs : starEach [b] X.env = (false, eval b X.env) :: starEach [] X.env := by rfl) (hplain : (backTo pos (starEach [] X.env)).any (·.1) = false := by rfl) :
    PE X (.Call (.Attribute a "index" apos) [b] [] pos) (tD k ow (b2 idxD fa fb)) :=
  pe_imp (pe_bm PySem.F.plainAttrs_list PySem.F.slot_list_index PySem.F.type_list_index mt_index ho (pa_cons hb pa_nil hs) hbase hfew hline hs hplain) fun σ H Q ⟨me, H0, F, δ, d, ex, x, hf, q⟩ => by
  obtain ⟨u, w, h1, h2, h3⟩ := b2_some hf
  unfold idxD at h3
  split at h3
  · rename_i l
    obtain ⟨bs, h4, h5⟩ := Option.bind_eq_some_iff.mp h3
    obtain ⟨j, h6, rfl⟩ := Option.map_eq_some_iff.mp h5
    refine ⟨me, H0, F, δ, _, ex, x, h1, fun v F1 H1 n1 r1 => ?_⟩
    cases r1 with
    | lst hF rA =>
      refine ⟨.inl ⟨rfl, _, SqL.of (n1.fh.e _ _ hF)⟩, me, H0, F1, δ, _, n1.fh, x.step n1, h2, fun v2 F2 H2 n2 r2 => ?_⟩
      cases r2
      have e := bools_rp rA h4
      subst e
      obtain ⟨k1, k2⟩ := fIdx_some h6
      refine ⟨_, _, _, j, .bl true, rfl, rfl, SqL.of (n2.h.g (n1.fh.e _ _ hF)), rfl, all_flat bs, by rw [List.getElem?_map, k1] <;> rfl, rfl, fun m z' hm hz => ?_, q _ F2 H2 (n1.trans n2) (.int _)⟩
      rw [List.getElem?_map, k2 m hm] at hz
      cases hz
      rfl
  · cases h3
end
/-! ### what isinstance tells -/
def tbInt (n : String) : Option Bool := if n = "int" then some true else if n = "bool" then some true else none
def tbBool (n : String) : Option Bool := if n = "bool" then some true else if n = "int" then some false else none
def tbTup (n : String) : Option Bool := if n = "tuple" then some true else if n = "int" then some false else if n = "list" then some false else if n = "NoneType" then some false else none
theorem tbInt_ok {K : PySem.W.Frag} : ∀ n b, tbInt n = some b → PySem.W.kitOne K (.type n) (.type "int") = some b := fun n b h => by
  unfold tbInt at h
  split at h
  · rename_i z; subst z; cases h; kernel_rfl
  split at h
  · rename_i z; subst z; cases h; kernel_rfl
  · cases h
theorem tbBool_ok {K : PySem.W.Frag} : ∀ n b, tbBool n = some b → PySem.W.kitOne K (.type n) (.type "bool") = some b := fun n b h => by
  unfold tbBool at h
  split at h
  · rename_i z; subst z; cases h; kernel_rfl
  split at h
  · rename_i z; subst z; cases h; kernel_rfl
  · cases h
theorem tbTup_ok {K : PySem.W.Frag} : ∀ n b, tbTup n = some b → PySem.W.kitOne K (.type n) (.type "tuple") = some b := fun n b h => by
  unfold tbTup at h
  split at h
  · rename_i z; subst z; cases h; kernel_rfl
  split at h
  · rename_i z; subst z; cases h; kernel_rfl
  split at h
  · rename_i z; subst z; cases h; kernel_rfl
  split at h
  · rename_i z; subst z; cases h; kernel_rfl
  · cases h
end Dl
set_option Elab.async false
set_option linter.all false
set_option maxRecDepth 100000
set_option maxHeartbeats 4000000
/-! What is known of the module behind its top. Printed by pre.py. -/
namespace Sk
open PySem PySem.Spec PyProof.Rows L2 Dl PySem.SkyX
/-- what is known -/
structure Hy (K : PySem.W.Frag) (mg : Str → Option Value) (base : Heap) (fd : Nat → FuncData) (k : Cl) : Prop where
  F_is_within : FunD K "is_within" "is_within" (defArgs st_is_within) (defBody st_is_within) (defScope st_is_within) [] [] (A_is_within K) (fd 0)
  m_is_within : mg "is_within" = some (.ref (A_is_within K))
  F_check_look : FunD K "check_look" "check_look" (defArgs st_check_look) (defBody st_check_look) (defScope st_check_look) [] [] (A_check_look K) (fd 1)
  m_check_look : mg "check_look" = some (.ref (A_check_look K))
  F_check_ear : FunD K "check_ear" "check_ear" (defArgs st_check_ear) (defBody st_check_ear) (defScope st_check_ear) [] [] (A_check_ear K) (fd 2)
  m_check_ear : mg "check_ear" = some (.ref (A_check_ear K))
  F_check_sky : FunD K "check_sky" "check_sky" (defArgs st_check_sky) (defBody st_check_sky) (defScope st_check_sky) [] [] (A_check_sky K) (fd 3)
  m_check_sky : mg "check_sky" = some (.ref (A_check_sky K))
  F_end_of : FunD K "end_of" "end_of" (defArgs st_end_of) (defBody st_end_of) (defScope st_end_of) [] [] (A_end_of K) (fd 4)
  m_end_of : mg "end_of" = some (.ref (A_end_of K))
  F_turning : FunD K "turning" "turning" (defArgs st_turning) (defBody st_turning) (defScope st_turning) [] [] (A_turning K) (fd 5)
  m_turning : mg "turning" = some (.ref (A_turning K))
  F_loss : FunD K "loss" "loss" (defArgs st_loss) (defBody st_loss) (defScope st_loss) [] [] (A_loss K) (fd 6)
  m_loss : mg "loss" = some (.ref (A_loss K))
  F_emptied : FunD K "emptied" "emptied" (defArgs st_emptied) (defBody st_emptied) (defScope st_emptied) [] [] (A_emptied K) (fd 7)
  m_emptied : mg "emptied" = some (.ref (A_emptied K))
  F_follows : FunD K "follows" "follows" (defArgs st_follows) (defBody st_follows) (defScope st_follows) [] [] (A_follows K) (fd 8)
  m_follows : mg "follows" = some (.ref (A_follows K))
  F_stored_at : FunD K "stored_at" "stored_at" (defArgs st_stored_at) (defBody st_stored_at) (defScope st_stored_at) [] [] (A_stored_at K) (fd 9)
  m_stored_at : mg "stored_at" = some (.ref (A_stored_at K))
  F_level_behind : FunD K "level_behind" "level_behind" (defArgs st_level_behind) (defBody st_level_behind) (defScope st_level_behind) [] [] (A_level_behind K) (fd 10)
  m_level_behind : mg "level_behind" = some (.ref (A_level_behind K))
  F_wrong_in : FunD K "wrong_in" "wrong_in" (defArgs st_wrong_in) (defBody st_wrong_in) (defScope st_wrong_in) [] [] (A_wrong_in K) (fd 11)
  m_wrong_in : mg "wrong_in" = some (.ref (A_wrong_in K))
  F_is_plan : FunD K "is_plan" "is_plan" (defArgs st_is_plan) (defBody st_is_plan) (defScope st_is_plan) [] [] (A_is_plan K) (fd 12)
  m_is_plan : mg "is_plan" = some (.ref (A_is_plan K))
  F_worth_of : FunD K "worth_of" "worth_of" (defArgs st_worth_of) (defBody st_worth_of) (defScope st_worth_of) [] [] (A_worth_of K) (fd 13)
  m_worth_of : mg "worth_of" = some (.ref (A_worth_of K))
  F_plans_on : FunD K "plans_on" "plans_on" (defArgs st_plans_on) (defBody st_plans_on) (defScope st_plans_on) [] [] (A_plans_on K) (fd 14)
  m_plans_on : mg "plans_on" = some (.ref (A_plans_on K))
  F_keeps : FunD K "keeps" "keeps" (defArgs st_keeps) (defBody st_keeps) (defScope st_keeps) [] [] (A_keeps K) (fd 15)
  m_keeps : mg "keeps" = some (.ref (A_keeps K))
  F_keeping : FunD K "keeping" "keeping" (defArgs st_keeping) (defBody st_keeping) (defScope st_keeping) [] [] (A_keeping K) (fd 16)
  m_keeping : mg "keeping" = some (.ref (A_keeping K))
  F_can_keep : FunD K "can_keep" "can_keep" (defArgs st_can_keep) (defBody st_can_keep) (defScope st_can_keep) [] [] (A_can_keep K) (fd 17)
  m_can_keep : mg "can_keep" = some (.ref (A_can_keep K))
  F_best_keeping : FunD K "best_keeping" "best_keeping" (defArgs st_best_keeping) (defBody st_best_keeping) (defScope st_best_keeping) [] [] (A_best_keeping K) (fd 18)
  m_best_keeping : mg "best_keeping" = some (.ref (A_best_keeping K))
  F_parts_of : FunD K "parts_of" "parts_of" (defArgs st_parts_of) (defBody st_parts_of) (defScope st_parts_of) [] [] (A_parts_of K) (fd 19)
  m_parts_of : mg "parts_of" = some (.ref (A_parts_of K))
  F_clash_of : FunD K "clash_of" "clash_of" (defArgs st_clash_of) (defBody st_clash_of) (defScope st_clash_of) [] [] (A_clash_of K) (fd 20)
  m_clash_of : mg "clash_of" = some (.ref (A_clash_of K))
  F_with_late : FunD K "with_late" "with_late" (defArgs st_with_late) (defBody st_with_late) (defScope st_with_late) [] [] (A_with_late K) (fd 21)
  m_with_late : mg "with_late" = some (.ref (A_with_late K))
  F_copied : FunD K "copied" "copied" (defArgs st_copied) (defBody st_copied) (defScope st_copied) [] [] (A_copied K) (fd 22)
  m_copied : mg "copied" = some (.ref (A_copied K))
  F_State___init__ : FunD K "__init__" "State.__init__" (defArgs st_State___init__) (defBody st_State___init__) (defScope st_State___init__) [] [] (A_State___init__ K) (fd 23)
  F_Console___init__ : FunD K "__init__" "Console.__init__" (defArgs st_Console___init__) (defBody st_Console___init__) (defScope st_Console___init__) [] [] (A_Console___init__ K) (fd 24)
  F_Console__state : FunD K "_state" "Console._state" (defArgs st_Console__state) (defBody st_Console__state) (defScope st_Console__state) [] [] (A_Console__state K) (fd 25)
  F_Console__enter : FunD K "_enter" "Console._enter" (defArgs st_Console__enter) (defBody st_Console__enter) (defScope st_Console__enter) [] [] (A_Console__enter K) (fd 26)
  F_Console_go : FunD K "go" "Console.go" (defArgs st_Console_go) (defBody st_Console_go) (defScope st_Console_go) [] [] (A_Console_go K) (fd 27)
  F_Console_wish : FunD K "wish" "Console.wish" (defArgs st_Console_wish) (defBody st_Console_wish) (defScope st_Console_wish) [] [] (A_Console_wish K) (fd 28)
  F_Console__check_wish : FunD K "_check_wish" "Console._check_wish" (defArgs st_Console__check_wish) (defBody st_Console__check_wish) (defScope st_Console__check_wish) [] [] (A_Console__check_wish K) (fd 29)
  F_Console_promise : FunD K "promise" "Console.promise" (defArgs st_Console_promise) (defBody st_Console_promise) (defScope st_Console_promise) [] [] (A_Console_promise K) (fd 30)
  F_Console_release : FunD K "release" "Console.release" (defArgs st_Console_release) (defBody st_Console_release) (defScope st_Console_release) [] [] (A_Console_release K) (fd 31)
  F_Console_lose : FunD K "lose" "Console.lose" (defArgs st_Console_lose) (defBody st_Console_lose) (defScope st_Console_lose) [] [] (A_Console_lose K) (fd 32)
  F_Console_sky : FunD K "sky" "Console.sky" (defArgs st_Console_sky) (defBody st_Console_sky) (defScope st_Console_sky) [] [] (A_Console_sky K) (fd 33)
  F_Console_begun : FunD K "begun" "Console.begun" (defArgs st_Console_begun) (defBody st_Console_begun) (defScope st_Console_begun) [] [] (A_Console_begun K) (fd 34)
  F_Console_promises : FunD K "promises" "Console.promises" (defArgs st_Console_promises) (defBody st_Console_promises) (defScope st_Console_promises) [] [] (A_Console_promises K) (fd 35)
  F_Console_plan : FunD K "plan" "Console.plan" (defArgs st_Console_plan) (defBody st_Console_plan) (defScope st_Console_plan) [] [] (A_Console_plan K) (fd 36)
  F_Console_worth : FunD K "worth" "Console.worth" (defArgs st_Console_worth) (defBody st_Console_worth) (defScope st_Console_worth) [] [] (A_Console_worth K) (fd 37)
  F_Console_now : FunD K "now" "Console.now" (defArgs st_Console_now) (defBody st_Console_now) (defScope st_Console_now) [] [] (A_Console_now K) (fd 38)
  F_law_draws : FunD K "_law_draws" "_law_draws" (defArgs st_law_draws) (defBody st_law_draws) (defScope st_law_draws) [] [] (A_law_draws K) (fd 39)
  m_law_draws : mg "_law_draws" = some (.ref (A_law_draws K))
  F_law_sky : FunD K "_law_sky" "_law_sky" (defArgs st_law_sky) (defBody st_law_sky) (defScope st_law_sky) [] [] (A_law_sky K) (fd 40)
  m_law_sky : mg "_law_sky" = some (.ref (A_law_sky K))
  F_law_turn : FunD K "_law_turn" "_law_turn" (defArgs st_law_turn) (defBody st_law_turn) (defScope st_law_turn) [] [] (A_law_turn K) (fd 41)
  m_law_turn : mg "_law_turn" = some (.ref (A_law_turn K))
  F_law_worth : FunD K "_law_worth" "_law_worth" (defArgs st_law_worth) (defBody st_law_worth) (defScope st_law_worth) [] [] (A_law_worth K) (fd 42)
  m_law_worth : mg "_law_worth" = some (.ref (A_law_worth K))
  F_law_loss : FunD K "_law_loss" "_law_loss" (defArgs st_law_loss) (defBody st_law_loss) (defScope st_law_loss) [] [] (A_law_loss K) (fd 43)
  m_law_loss : mg "_law_loss" = some (.ref (A_law_loss K))
  F_law_level : FunD K "_law_level" "_law_level" (defArgs st_law_level) (defBody st_law_level) (defScope st_law_level) [] [] (A_law_level K) (fd 44)
  m_law_level : mg "_law_level" = some (.ref (A_law_level K))
  F_law_plans_on : FunD K "_law_plans_on" "_law_plans_on" (defArgs st_law_plans_on) (defBody st_law_plans_on) (defScope st_law_plans_on) [] [] (A_law_plans_on K) (fd 45)
  m_law_plans_on : mg "_law_plans_on" = some (.ref (A_law_plans_on K))
  F_law_keep : FunD K "_law_keep" "_law_keep" (defArgs st_law_keep) (defBody st_law_keep) (defScope st_law_keep) [] [] (A_law_keep K) (fd 46)
  m_law_keep : mg "_law_keep" = some (.ref (A_law_keep K))
  F_law_best : FunD K "_law_best" "_law_best" (defArgs st_law_best) (defBody st_law_best) (defScope st_law_best) [] [] (A_law_best K) (fd 47)
  m_law_best : mg "_law_best" = some (.ref (A_law_best K))
  F_law_deed : FunD K "_law_deed" "_law_deed" (defArgs st_law_deed) (defBody st_law_deed) (defScope st_law_deed) [] [] (A_law_deed K) (fd 48)
  m_law_deed : mg "_law_deed" = some (.ref (A_law_deed K))
  F_law_class : FunD K "_law_class" "_law_class" (defArgs st_law_class) (defBody st_law_class) (defScope st_law_class) [] [] (A_law_class K) (fd 49)
  m_law_class : mg "_law_class" = some (.ref (A_law_class K))
  F_law_do : FunD K "_law_do" "_law_do" (defArgs st_law_do) (defBody st_law_do) (defScope st_law_do) [] [] (A_law_do K) (fd 50)
  m_law_do : mg "_law_do" = some (.ref (A_law_do K))
  F_law_lost : FunD K "_law_lost" "_law_lost" (defArgs st_law_lost) (defBody st_law_lost) (defScope st_law_lost) [] [] (A_law_lost K) (fd 51)
  m_law_lost : mg "_law_lost" = some (.ref (A_law_lost K))
  F_law : FunD K "law" "law" (defArgs st_law) (defBody st_law) (defScope st_law) [] [] (A_law K) (fd 52)
  m_law : mg "law" = some (.ref (A_law K))
  b_abs : mg "abs" = none
  b_all : mg "all" = none
  b_any : mg "any" = none
  b_bool : mg "bool" = none
  b_enumerate : mg "enumerate" = none
  b_int : mg "int" = none
  b_isinstance : mg "isinstance" = none
  b_len : mg "len" = none
  b_list : mg "list" = none
  b_max : mg "max" = none
  b_min : mg "min" = none
  b_range : mg "range" = none
  b_repr : mg "repr" = none
  b_sorted : mg "sorted" = none
  b_sum : mg "sum" = none
  b_tuple : mg "tuple" = none
  m_super : mg "super" = none
  c_MOST_LOOKS : ∃ t, mg "MOST_LOOKS" = some (.int 16 t)
  c_MOST_WISHES : ∃ t, mg "MOST_WISHES" = some (.int 6 t)
  c_MOST_EARS : ∃ t, mg "MOST_EARS" = some (.int 4 t)
  c_LAST : ∃ t, mg "LAST" = some (.int 200 t)
  SO : k.S ≠ k.O
  cS : Cls K k.S
  cO : Cls K k.O
  m_State : mg "State" = some (.ref k.S)
  m_Console : mg "Console" = some (.ref k.O)
  mkS : L2.Mk K k.S (A_State___init__ K)
  mkO : L2.Mk K k.O (A_Console___init__ K)
  nS_sky : NoAttr K k.S "sky"
  nS_time : NoAttr K k.S "time"
  nS_begun : NoAttr K k.S "begun"
  nS_promises : NoAttr K k.S "promises"
  nS_worth : NoAttr K k.S "worth"
  nS_plan : NoAttr K k.S "plan"
  nO_states : NoAttr K k.O "_states"
  nO_at : NoAttr K k.O "_at"
  nO_entries : NoAttr K k.O "_entries"
  M__state : Meth K k.O "_state" (A_Console__state K)
  M__enter : Meth K k.O "_enter" (A_Console__enter K)
  M_go : Meth K k.O "go" (A_Console_go K)
  M_wish : Meth K k.O "wish" (A_Console_wish K)
  M__check_wish : Meth K k.O "_check_wish" (A_Console__check_wish K)
  M_promise : Meth K k.O "promise" (A_Console_promise K)
  M_release : Meth K k.O "release" (A_Console_release K)
  M_lose : Meth K k.O "lose" (A_Console_lose K)
  M_sky : Meth K k.O "sky" (A_Console_sky K)
  M_begun : Meth K k.O "begun" (A_Console_begun K)
  M_promises : Meth K k.O "promises" (A_Console_promises K)
  M_plan : Meth K k.O "plan" (A_Console_plan K)
  M_worth : Meth K k.O "worth" (A_Console_worth K)
  p_now : ∃ p, PropOf K k.O "now" p (A_Console_now K)
  m_BadSize : mg "BadSize" = some (.ref (k.ec 0))
  E_BadSize : SkyC Pg K (k.ec 0) (He.fAd K ("BadSize", some "__init__")) "BadSize.__init__" (defArgs stE_BadSize) (defBody stE_BadSize) (defScope stE_BadSize)
  X_BadSize : ExcC K (k.ec 0)
  m_BadNumber : mg "BadNumber" = some (.ref (k.ec 1))
  E_BadNumber : SkyC Pg K (k.ec 1) (He.fAd K ("BadNumber", some "__init__")) "BadNumber.__init__" (defArgs stE_BadNumber) (defBody stE_BadNumber) (defScope stE_BadNumber)
  X_BadNumber : ExcC K (k.ec 1)
  m_BadWish : mg "BadWish" = some (.ref (k.ec 2))
  E_BadWish : SkyC Pg K (k.ec 2) (He.fAd K ("BadWish", some "__init__")) "BadWish.__init__" (defArgs stE_BadWish) (defBody stE_BadWish) (defScope stE_BadWish)
  X_BadWish : ExcC K (k.ec 2)
  m_BadTime : mg "BadTime" = some (.ref (k.ec 3))
  E_BadTime : SkyC Pg K (k.ec 3) (He.fAd K ("BadTime", some "__init__")) "BadTime.__init__" (defArgs stE_BadTime) (defBody stE_BadTime) (defScope stE_BadTime)
  X_BadTime : ExcC K (k.ec 3)
  m_BadEar : mg "BadEar" = some (.ref (k.ec 4))
  E_BadEar : SkyC Pg K (k.ec 4) (He.fAd K ("BadEar", some "__init__")) "BadEar.__init__" (defArgs stE_BadEar) (defBody stE_BadEar) (defScope stE_BadEar)
  X_BadEar : ExcC K (k.ec 4)
  m_NotSo : mg "NotSo" = some (.ref (k.ec 5))
  E_NotSo : SkyC Pg K (k.ec 5) (He.fAd K ("NotSo", some "__init__")) "NotSo.__init__" (defArgs stE_NotSo) (defBody stE_NotSo) (defScope stE_NotSo)
  X_NotSo : ExcC K (k.ec 5)
  m_Clash : mg "Clash" = some (.ref (k.ec 6))
  E_Clash : SkyC Pg K (k.ec 6) (He.fAd K ("Clash", some "__init__")) "Clash.__init__" (defArgs stE_Clash) (defBody stE_Clash) (defScope stE_Clash)
  X_Clash : ExcC K (k.ec 6)
  m_NothingToUndo : ∃ C, mg "NothingToUndo" = some (.ref C) ∧ ∀ c, c < 7 → PySem.W.kitOne K (.ref (k.ec c)) (.ref C) = some false
  m_NothingToRedo : ∃ C, mg "NothingToRedo" = some (.ref C) ∧ ∀ c, c < 7 → PySem.W.kitOne K (.ref (k.ec c)) (.ref C) = some false
  m_BadEntry : ∃ C, mg "BadEntry" = some (.ref C) ∧ ∀ c, c < 7 → PySem.W.kitOne K (.ref (k.ec c)) (.ref C) = some false
  m_SkyError : ∃ C, mg "SkyError" = some (.ref C) ∧ (∀ c, c < 7 → PySem.W.kitOne K (.ref (k.ec c)) (.ref C) = some true) ∧ ∀ c, c < 7 → PySem.W.exmOne K (.ref (k.ec c)) (.ref C) = some true
  kits : ∀ c d, c < 7 → d < 7 → PySem.W.kitOne K (.ref (k.ec c)) (.ref (k.ec d)) = some (c == d)
  inj : ∀ c d, c < 7 → d < 7 → k.ec c = k.ec d → c = d
  saC : PySem.W.findIn K (.ref (k.ec 6)) "__setattr__" = some (some (.builtin "object.__setattr__"))
  noW : PySem.W.findIn K (.ref (k.ec 6)) "wishes" = some none
  kT : k.T = [((He.cT K ("parts_of", none)).2, ("parts_of" ++ ".<locals>." : Str) ++ "<lambda>"), ((He.cT K ("with_late", none)).2, ("with_late" ++ ".<locals>." : Str) ++ "<lambda>")]
  nT : (He.cT K ("parts_of", none)).2 ≠ (He.cT K ("with_late", none)).2
  er : k.er = none
  tb1 : LamX.TabB base mg (He.cT K ("parts_of", none)).1 (He.cT K ("parts_of", none)).2
  tb2 : LamX.TabB base mg (He.cT K ("with_late", none)).1 (He.cT K ("with_late", none)).2
section
variable {K : PySem.W.Frag} {mg : Str → Option Value} {base : Heap} {fd : Nat → FuncData} {k : Cl}
theorem sc_is_within : FnScope ["value", "low", "high"] ["value", "low", "high"] (defScope st_is_within) := ⟨rfl, rfl, rfl, by decide +kernel, rfl, by decide +kernel, by decide +kernel⟩
theorem b_is_within (y : Hy K mg base fd k) : Binds K (fd 0) ["value", "low", "high"] [] := y.F_is_within.bindsN fun _ _ _ _ _ _ us hl => match us, hl with | [_, _, _], _ => rfl
theorem sc_check_look : FnScope ["look", "many", "since", "wish", "start", "length", "angle", "size"] ["look", "many", "since"] (defScope st_check_look) := ⟨rfl, rfl, rfl, by decide +kernel, rfl, by decide +kernel, by decide +kernel⟩
theorem b_check_look (y : Hy K mg base fd k) : Binds K (fd 1) ["look", "many", "since"] [] := y.F_check_look.bindsN fun _ _ _ _ _ _ us hl => match us, hl with | [_, _, _], _ => rfl
theorem sc_check_ear : FnScope ["ear", "since", "first", "last", "rate"] ["ear", "since"] (defScope st_check_ear) := ⟨rfl, rfl, rfl, by decide +kernel, rfl, by decide +kernel, by decide +kernel⟩
theorem b_check_ear (y : Hy K mg base fd k) : Binds K (fd 2) ["ear", "since"] [] := y.F_check_ear.bindsN fun _ _ _ _ _ _ us hl => match us, hl with | [_, _], _ => rfl
theorem sc_check_sky : FnScope ["sky", "looks", "worths", "ears", "capacity", "turn", "worth", "since", "look", "ear"] ["sky"] (defScope st_check_sky) := ⟨rfl, rfl, rfl, by decide +kernel, rfl, by decide +kernel, by decide +kernel⟩
theorem b_check_sky (y : Hy K mg base fd k) : Binds K (fd 3) ["sky"] [] := y.F_check_sky.bindsN fun _ _ _ _ _ _ us hl => match us, hl with | [_], _ => rfl
theorem sc_end_of : FnScope ["sky", "look", "wish", "start", "length", "angle", "size"] ["sky", "look"] (defScope st_end_of) := ⟨rfl, rfl, rfl, by decide +kernel, rfl, by decide +kernel, by decide +kernel⟩
theorem b_end_of (y : Hy K mg base fd k) : Binds K (fd 4) ["sky", "look"] [] := y.F_end_of.bindsN fun _ _ _ _ _ _ us hl => match us, hl with | [_, _], _ => rfl
theorem sc_turning : FnScope ["sky", "first", "second"] ["sky", "first", "second"] (defScope st_turning) := ⟨rfl, rfl, rfl, by decide +kernel, rfl, by decide +kernel, by decide +kernel⟩
theorem b_turning (y : Hy K mg base fd k) : Binds K (fd 5) ["sky", "first", "second"] [] := y.F_turning.bindsN fun _ _ _ _ _ _ us hl => match us, hl with | [_, _, _], _ => rfl
theorem sc_loss : FnScope ["ears", "since", "until", "found", "first", "last", "rate"] ["ears", "since", "until"] (defScope st_loss) := ⟨rfl, rfl, rfl, by decide +kernel, rfl, by decide +kernel, by decide +kernel⟩
theorem b_loss (y : Hy K mg base fd k) : Binds K (fd 6) ["ears", "since", "until"] [] := y.F_loss.bindsN fun _ _ _ _ _ _ us hl => match us, hl with | [_, _, _], _ => rfl
theorem sc_emptied : FnScope ["sky", "amount", "since", "until"] ["sky", "amount", "since", "until"] (defScope st_emptied) := ⟨rfl, rfl, rfl, by decide +kernel, rfl, by decide +kernel, by decide +kernel⟩
theorem b_emptied (y : Hy K mg base fd k) : KB K (fd 7) ["sky", "amount", "since", "until"] ["since", "until"] 2 2 := kb_of y.F_emptied 2 2 (by decide) fun _ _ _ _ _ _ us ws h1 h2 => match us, ws, h1, h2 with | [_, _], [_, _], _, _ => by kernel_rfl
theorem sc_follows : FnScope ["sky", "first", "second"] ["sky", "first", "second"] (defScope st_follows) := ⟨rfl, rfl, rfl, by decide +kernel, rfl, by decide +kernel, by decide +kernel⟩
theorem b_follows (y : Hy K mg base fd k) : Binds K (fd 8) ["sky", "first", "second"] [] := y.F_follows.bindsN fun _ _ _ _ _ _ us hl => match us, hl with | [_, _, _], _ => rfl
theorem sc_stored_at : FnScope ["sky", "look", "amount", "time"] ["sky", "look", "amount", "time"] (defScope st_stored_at) := ⟨rfl, rfl, rfl, by decide +kernel, rfl, by decide +kernel, by decide +kernel⟩
theorem b_stored_at (y : Hy K mg base fd k) : Binds K (fd 9) ["sky", "look", "amount", "time"] [] := y.F_stored_at.bindsN fun _ _ _ _ _ _ us hl => match us, hl with | [_, _, _, _], _ => rfl
theorem sc_level_behind : FnScope ["sky", "last", "amount", "look", "wish", "start", "length", "angle", "size"] ["sky", "last", "amount", "look"] (defScope st_level_behind) := ⟨rfl, rfl, rfl, by decide +kernel, rfl, by decide +kernel, by decide +kernel⟩
theorem b_level_behind (y : Hy K mg base fd k) : Binds K (fd 10) ["sky", "last", "amount", "look"] [] := y.F_level_behind.bindsN fun _ _ _ _ _ _ us hl => match us, hl with | [_, _, _, _], _ => rfl
theorem sc_wrong_in : FnScope ["sky", "names", "last", "amount", "seen", "place", "look"] ["sky", "names"] (defScope st_wrong_in) := ⟨rfl, rfl, rfl, by decide +kernel, rfl, by decide +kernel, by decide +kernel⟩
theorem b_wrong_in (y : Hy K mg base fd k) : Binds K (fd 11) ["sky", "names"] [] := y.F_wrong_in.bindsN fun _ _ _ _ _ _ us hl => match us, hl with | [_, _], _ => rfl
theorem sc_is_plan : FnScope ["sky", "names"] ["sky", "names"] (defScope st_is_plan) := ⟨rfl, rfl, rfl, by decide +kernel, rfl, by decide +kernel, by decide +kernel⟩
theorem b_is_plan (y : Hy K mg base fd k) : Binds K (fd 12) ["sky", "names"] [] := y.F_is_plan.bindsN fun _ _ _ _ _ _ us hl => match us, hl with | [_, _], _ => rfl
theorem sc_worth_of : FnScope ["sky", "names", "wishes", "look", "wish"] ["sky", "names"] (defScope st_worth_of) := ⟨rfl, rfl, rfl, by decide +kernel, rfl, by decide +kernel, by decide +kernel⟩
theorem b_worth_of (y : Hy K mg base fd k) : Binds K (fd 13) ["sky", "names"] [] := y.F_worth_of.bindsN fun _ _ _ _ _ _ us hl => match us, hl with | [_, _], _ => rfl
theorem sc_plans_on : FnScope ["sky", "now", "begun", "found", "at", "plan", "first", "look"] ["sky", "now", "begun"] (defScope st_plans_on) := ⟨rfl, rfl, rfl, by decide +kernel, rfl, by decide +kernel, by decide +kernel⟩
theorem b_plans_on (y : Hy K mg base fd k) : KB K (fd 14) ["sky", "now", "begun"] ["now", "begun"] 1 2 := kb_of y.F_plans_on 1 2 (by decide) fun _ _ _ _ _ _ us ws h1 h2 => match us, ws, h1, h2 with | [_], [_, _], _, _ => by kernel_rfl
theorem sc_keeps : FnScope ["sky", "plan", "promises", "wishes", "look", "wish"] ["sky", "plan", "promises"] (defScope st_keeps) := ⟨rfl, rfl, rfl, by decide +kernel, rfl, by decide +kernel, by decide +kernel⟩
theorem b_keeps (y : Hy K mg base fd k) : Binds K (fd 15) ["sky", "plan", "promises"] [] := y.F_keeps.bindsN fun _ _ _ _ _ _ us hl => match us, hl with | [_, _, _], _ => rfl
theorem sc_keeping : FnScope ["sky", "promises", "now", "begun", "plan"] ["sky", "promises", "now", "begun"] (defScope st_keeping) := ⟨rfl, rfl, rfl, by decide +kernel, rfl, by decide +kernel, by decide +kernel⟩
theorem b_keeping (y : Hy K mg base fd k) : Binds K (fd 16) ["sky", "promises", "now", "begun"] [] := y.F_keeping.bindsN fun _ _ _ _ _ _ us hl => match us, hl with | [_, _, _, _], _ => rfl
theorem sc_can_keep : FnScope ["sky", "promises", "now", "begun"] ["sky", "promises", "now", "begun"] (defScope st_can_keep) := ⟨rfl, rfl, rfl, by decide +kernel, rfl, by decide +kernel, by decide +kernel⟩
theorem b_can_keep (y : Hy K mg base fd k) : KB K (fd 17) ["sky", "promises", "now", "begun"] ["now", "begun"] 2 2 := kb_of y.F_can_keep 2 2 (by decide) fun _ _ _ _ _ _ us ws h1 h2 => match us, ws, h1, h2 with | [_, _], [_, _], _, _ => by kernel_rfl
theorem sc_best_keeping : FnScope ["sky", "promises", "now", "begun", "best", "plan", "worth"] ["sky", "promises", "now", "begun"] (defScope st_best_keeping) := ⟨rfl, rfl, rfl, by decide +kernel, rfl, by decide +kernel, by decide +kernel⟩
theorem b_best_keeping (y : Hy K mg base fd k) : KB K (fd 18) ["sky", "promises", "now", "begun"] ["now", "begun"] 2 2 := kb_of y.F_best_keeping 2 2 (by decide) fun _ _ _ _ _ _ us ws h1 h2 => match us, ws, h1, h2 with | [_, _], [_, _], _, _ => by kernel_rfl
theorem sc_parts_of : FnScope ["promises", "found", "wish", "part"] ["promises"] (defScope st_parts_of) := ⟨rfl, rfl, rfl, by decide +kernel, rfl, by decide +kernel, by decide +kernel⟩
theorem b_parts_of (y : Hy K mg base fd k) : Binds K (fd 19) ["promises"] [] := y.F_parts_of.bindsN fun _ _ _ _ _ _ us hl => match us, hl with | [_], _ => rfl
theorem sc_clash_of : FnScope ["sky", "promises", "wish", "now", "begun", "plans", "part", "plan"] ["sky", "promises", "wish", "now", "begun"] (defScope st_clash_of) := ⟨rfl, rfl, rfl, by decide +kernel, rfl, by decide +kernel, by decide +kernel⟩
theorem b_clash_of (y : Hy K mg base fd k) : KB K (fd 20) ["sky", "promises", "wish", "now", "begun"] ["now", "begun"] 3 2 := kb_of y.F_clash_of 3 2 (by decide) fun _ _ _ _ _ _ us ws h1 h2 => match us, ws, h1, h2 with | [_, _, _], [_, _], _, _ => by kernel_rfl
theorem sc_with_late : FnScope ["sky", "worth", "looks", "now", "wish", "look", "merged", "found"] ["sky", "worth", "looks", "now"] (defScope st_with_late) := ⟨rfl, rfl, rfl, by decide +kernel, rfl, by decide +kernel, by decide +kernel⟩
theorem b_with_late (y : Hy K mg base fd k) : KB K (fd 21) ["sky", "worth", "looks", "now"] ["now"] 3 1 := kb_of y.F_with_late 3 1 (by decide) fun _ _ _ _ _ _ us ws h1 h2 => match us, ws, h1, h2 with | [_, _, _], [_], _, _ => by kernel_rfl
theorem sc_copied : FnScope ["sky", "looks", "worths", "ears", "capacity", "turn"] ["sky"] (defScope st_copied) := ⟨rfl, rfl, rfl, by decide +kernel, rfl, by decide +kernel, by decide +kernel⟩
theorem b_copied (y : Hy K mg base fd k) : Binds K (fd 22) ["sky"] [] := y.F_copied.bindsN fun _ _ _ _ _ _ us hl => match us, hl with | [_], _ => rfl
theorem sc_State___init__ : FnScope ["self", "sky", "now", "begun", "promises"] ["self", "sky", "now", "begun", "promises"] (defScope st_State___init__) := ⟨rfl, rfl, rfl, by decide +kernel, rfl, by decide +kernel, by decide +kernel⟩
theorem b_State___init__ (y : Hy K mg base fd k) : Binds K (fd 23) ["self", "sky", "now", "begun", "promises"] [] := y.F_State___init__.bindsN fun _ _ _ _ _ _ us hl => match us, hl with | [_, _, _, _, _], _ => rfl
theorem sc_Console___init__ : FnScope ["self", "sky"] ["self", "sky"] (defScope st_Console___init__) := ⟨rfl, rfl, rfl, by decide +kernel, rfl, by decide +kernel, by decide +kernel⟩
theorem b_Console___init__ (y : Hy K mg base fd k) : Binds K (fd 24) ["self", "sky"] [] := y.F_Console___init__.bindsN fun _ _ _ _ _ _ us hl => match us, hl with | [_, _], _ => rfl
theorem sc_Console__state : FnScope ["self"] ["self"] (defScope st_Console__state) := ⟨rfl, rfl, rfl, by decide +kernel, rfl, by decide +kernel, by decide +kernel⟩
theorem b_Console__state (y : Hy K mg base fd k) : Binds K (fd 25) ["self"] [] := y.F_Console__state.bindsN fun _ _ _ _ _ _ us hl => match us, hl with | [_], _ => rfl
theorem sc_Console__enter : FnScope ["self", "state", "entry"] ["self", "state", "entry"] (defScope st_Console__enter) := ⟨rfl, rfl, rfl, by decide +kernel, rfl, by decide +kernel, by decide +kernel⟩
theorem b_Console__enter (y : Hy K mg base fd k) : Binds K (fd 26) ["self", "state", "entry"] [] := y.F_Console__enter.bindsN fun _ _ _ _ _ _ us hl => match us, hl with | [_, _, _], _ => rfl
theorem sc_Console_go : FnScope ["self", "time", "state", "begun", "look", "fresh"] ["self", "time"] (defScope st_Console_go) := ⟨rfl, rfl, rfl, by decide +kernel, rfl, by decide +kernel, by decide +kernel⟩
theorem b_Console_go (y : Hy K mg base fd k) : Binds K (fd 27) ["self", "time"] [] := y.F_Console_go.bindsN fun _ _ _ _ _ _ us hl => match us, hl with | [_, _], _ => rfl
theorem sc_Console_wish : FnScope ["self", "worth", "looks", "state", "sky"] ["self", "worth", "looks"] (defScope st_Console_wish) := ⟨rfl, rfl, rfl, by decide +kernel, rfl, by decide +kernel, by decide +kernel⟩
theorem b_Console_wish (y : Hy K mg base fd k) : Binds K (fd 28) ["self", "worth", "looks"] [] := y.F_Console_wish.bindsN fun _ _ _ _ _ _ us hl => match us, hl with | [_, _, _], _ => rfl
theorem sc_Console__check_wish : FnScope ["self", "wish", "is_promised", "state"] ["self", "wish", "is_promised"] (defScope st_Console__check_wish) := ⟨rfl, rfl, rfl, by decide +kernel, rfl, by decide +kernel, by decide +kernel⟩
theorem b_Console__check_wish (y : Hy K mg base fd k) : KB K (fd 29) ["self", "wish", "is_promised"] ["is_promised"] 2 1 := kb_of y.F_Console__check_wish 2 1 (by decide) fun _ _ _ _ _ _ us ws h1 h2 => match us, ws, h1, h2 with | [_, _], [_], _, _ => by kernel_rfl
theorem sc_Console_promise : FnScope ["self", "wish", "state", "clash"] ["self", "wish"] (defScope st_Console_promise) := ⟨rfl, rfl, rfl, by decide +kernel, rfl, by decide +kernel, by decide +kernel⟩
theorem b_Console_promise (y : Hy K mg base fd k) : Binds K (fd 30) ["self", "wish"] [] := y.F_Console_promise.bindsN fun _ _ _ _ _ _ us hl => match us, hl with | [_, _], _ => rfl
theorem sc_Console_release : FnScope ["self", "wish", "state", "rest", "promise"] ["self", "wish"] (defScope st_Console_release) := ⟨rfl, rfl, rfl, by decide +kernel, rfl, by decide +kernel, by decide +kernel⟩
theorem b_Console_release (y : Hy K mg base fd k) : Binds K (fd 31) ["self", "wish"] [] := y.F_Console_release.bindsN fun _ _ _ _ _ _ us hl => match us, hl with | [_, _], _ => rfl
theorem sc_Console_lose : FnScope ["self", "ear", "state", "looks", "worths", "ears", "capacity", "turn", "sky", "kept", "promise"] ["self", "ear"] (defScope st_Console_lose) := ⟨rfl, rfl, rfl, by decide +kernel, rfl, by decide +kernel, by decide +kernel⟩
theorem b_Console_lose (y : Hy K mg base fd k) : Binds K (fd 32) ["self", "ear"] [] := y.F_Console_lose.bindsN fun _ _ _ _ _ _ us hl => match us, hl with | [_, _], _ => rfl
theorem sc_Console_sky : FnScope ["self"] ["self"] (defScope st_Console_sky) := ⟨rfl, rfl, rfl, by decide +kernel, rfl, by decide +kernel, by decide +kernel⟩
theorem b_Console_sky (y : Hy K mg base fd k) : Binds K (fd 33) ["self"] [] := y.F_Console_sky.bindsN fun _ _ _ _ _ _ us hl => match us, hl with | [_], _ => rfl
theorem sc_Console_begun : FnScope ["self"] ["self"] (defScope st_Console_begun) := ⟨rfl, rfl, rfl, by decide +kernel, rfl, by decide +kernel, by decide +kernel⟩
theorem b_Console_begun (y : Hy K mg base fd k) : Binds K (fd 34) ["self"] [] := y.F_Console_begun.bindsN fun _ _ _ _ _ _ us hl => match us, hl with | [_], _ => rfl
theorem sc_Console_promises : FnScope ["self"] ["self"] (defScope st_Console_promises) := ⟨rfl, rfl, rfl, by decide +kernel, rfl, by decide +kernel, by decide +kernel⟩
theorem b_Console_promises (y : Hy K mg base fd k) : Binds K (fd 35) ["self"] [] := y.F_Console_promises.bindsN fun _ _ _ _ _ _ us hl => match us, hl with | [_], _ => rfl
theorem sc_Console_plan : FnScope ["self"] ["self"] (defScope st_Console_plan) := ⟨rfl, rfl, rfl, by decide +kernel, rfl, by decide +kernel, by decide +kernel⟩
theorem b_Console_plan (y : Hy K mg base fd k) : Binds K (fd 36) ["self"] [] := y.F_Console_plan.bindsN fun _ _ _ _ _ _ us hl => match us, hl with | [_], _ => rfl
theorem sc_Console_worth : FnScope ["self"] ["self"] (defScope st_Console_worth) := ⟨rfl, rfl, rfl, by decide +kernel, rfl, by decide +kernel, by decide +kernel⟩
theorem b_Console_worth (y : Hy K mg base fd k) : Binds K (fd 37) ["self"] [] := y.F_Console_worth.bindsN fun _ _ _ _ _ _ us hl => match us, hl with | [_], _ => rfl
theorem sc_Console_now : FnScope ["self"] ["self"] (defScope st_Console_now) := ⟨rfl, rfl, rfl, by decide +kernel, rfl, by decide +kernel, by decide +kernel⟩
theorem b_Console_now (y : Hy K mg base fd k) : Binds K (fd 38) ["self"] [] := y.F_Console_now.bindsN fun _ _ _ _ _ _ us hl => match us, hl with | [_], _ => rfl
theorem sc_law_draws : FnScope ["_law_script", "_law_count", "_law_rests", "_law_cell", "_law_draws_here", "_law_k", "_law_value", "_law_at", "_law_mixed"] ["_law_script", "_law_count"] (defScope st_law_draws) := ⟨rfl, rfl, rfl, by decide +kernel, rfl, by decide +kernel, by decide +kernel⟩
theorem b_law_draws (y : Hy K mg base fd k) : Binds K (fd 39) ["_law_script", "_law_count"] [] := y.F_law_draws.bindsN fun _ _ _ _ _ _ us hl => match us, hl with | [_, _], _ => rfl
theorem sc_law_sky : FnScope ["_law_draws_here", "_law_most", "_law_wishes", "_law_worths", "_law_k", "_law_ears", "_law_since", "_law_first", "_law_looks", "_law_start", "_law_angle"] ["_law_draws_here", "_law_most"] (defScope st_law_sky) := ⟨rfl, rfl, rfl, by decide +kernel, rfl, by decide +kernel, by decide +kernel⟩
theorem b_law_sky (y : Hy K mg base fd k) : Binds K (fd 40) ["_law_draws_here", "_law_most"] [] := y.F_law_sky.bindsN fun _ _ _ _ _ _ us hl => match us, hl with | [_, _], _ => rfl
theorem sc_law_turn : FnScope ["_law_sky_here", "_law_first", "_law_second", "_law_ticks", "_law_turn_here"] ["_law_sky_here", "_law_first", "_law_second"] (defScope st_law_turn) := ⟨rfl, rfl, rfl, by decide +kernel, rfl, by decide +kernel, by decide +kernel⟩
theorem b_law_turn (y : Hy K mg base fd k) : Binds K (fd 41) ["_law_sky_here", "_law_first", "_law_second"] [] := y.F_law_turn.bindsN fun _ _ _ _ _ _ us hl => match us, hl with | [_, _, _], _ => rfl
theorem sc_law_worth : FnScope ["_law_sky_here", "_law_names", "_law_wishes", "_law_name", "_law_wish"] ["_law_sky_here", "_law_names"] (defScope st_law_worth) := ⟨rfl, rfl, rfl, by decide +kernel, rfl, by decide +kernel, by decide +kernel⟩
theorem b_law_worth (y : Hy K mg base fd k) : Binds K (fd 42) ["_law_sky_here", "_law_names"] [] := y.F_law_worth.bindsN fun _ _ _ _ _ _ us hl => match us, hl with | [_, _], _ => rfl
theorem sc_law_loss : FnScope ["_law_sky_here", "_law_since", "_law_until", "_law_first", "_law_last", "_law_rate"] ["_law_sky_here", "_law_since", "_law_until"] (defScope st_law_loss) := ⟨rfl, rfl, rfl, by decide +kernel, rfl, by decide +kernel, by decide +kernel⟩
theorem b_law_loss (y : Hy K mg base fd k) : Binds K (fd 43) ["_law_sky_here", "_law_since", "_law_until"] [] := y.F_law_loss.bindsN fun _ _ _ _ _ _ us hl => match us, hl with | [_, _, _], _ => rfl
theorem sc_law_level : FnScope ["_law_sky_here", "_law_names", "_law_store", "_law_name", "_law_wish", "_law_start", "_law_length", "_law_angle", "_law_size", "_law_since", "_law_last", "_law_one"] ["_law_sky_here", "_law_names", "_law_store", "_law_name"] (defScope st_law_level) := ⟨rfl, rfl, rfl, by decide +kernel, rfl, by decide +kernel, by decide +kernel⟩
theorem b_law_level (y : Hy K mg base fd k) : Binds K (fd 44) ["_law_sky_here", "_law_names", "_law_store", "_law_name"] [] := y.F_law_level.bindsN fun _ _ _ _ _ _ us hl => match us, hl with | [_, _, _, _], _ => rfl
theorem sc_law_plans_on : FnScope ["_law_sky_here", "_law_now", "_law_begun", "_law_found", "_law_name", "_law_names", "_law_store", "_law_level_here"] ["_law_sky_here", "_law_now", "_law_begun"] (defScope st_law_plans_on) := ⟨rfl, rfl, rfl, by decide +kernel, rfl, by decide +kernel, by decide +kernel⟩
theorem b_law_plans_on (y : Hy K mg base fd k) : Binds K (fd 45) ["_law_sky_here", "_law_now", "_law_begun"] [] := y.F_law_plans_on.bindsN fun _ _ _ _ _ _ us hl => match us, hl with | [_, _, _], _ => rfl
theorem sc_law_keep : FnScope ["_law_sky_here", "_law_names", "_law_promises", "_law_wishes", "_law_name", "_law_wish"] ["_law_sky_here", "_law_names", "_law_promises"] (defScope st_law_keep) := ⟨rfl, rfl, rfl, by decide +kernel, rfl, by decide +kernel, by decide +kernel⟩
theorem b_law_keep (y : Hy K mg base fd k) : Binds K (fd 46) ["_law_sky_here", "_law_names", "_law_promises"] [] := y.F_law_keep.bindsN fun _ _ _ _ _ _ us hl => match us, hl with | [_, _, _], _ => rfl
theorem sc_law_best : FnScope ["_law_state", "_law_sky_here", "_law_now", "_law_begun", "_law_promises", "_law_best_here", "_law_names"] ["_law_state"] (defScope st_law_best) := ⟨rfl, rfl, rfl, by decide +kernel, rfl, by decide +kernel, by decide +kernel⟩
theorem b_law_best (y : Hy K mg base fd k) : Binds K (fd 47) ["_law_state"] [] := y.F_law_best.bindsN fun _ _ _ _ _ _ us hl => match us, hl with | [_], _ => rfl
theorem sc_law_deed : FnScope ["_law_state", "_law_draws_here", "_law_sky_here", "_law_now", "_law_begun", "_law_promises", "_law_kind", "_law_odd", "_law_looks", "_law_k", "_law_start", "_law_length"] ["_law_state", "_law_draws_here"] (defScope st_law_deed) := ⟨rfl, rfl, rfl, by decide +kernel, rfl, by decide +kernel, by decide +kernel⟩
theorem b_law_deed (y : Hy K mg base fd k) : Binds K (fd 48) ["_law_state", "_law_draws_here"] [] := y.F_law_deed.bindsN fun _ _ _ _ _ _ us hl => match us, hl with | [_, _], _ => rfl
theorem sc_law_class : FnScope ["_law_error", "_law_words", "_law_kinds"] ["_law_error"] (defScope st_law_class) := ⟨rfl, rfl, rfl, by decide +kernel, rfl, by decide +kernel, by decide +kernel⟩
theorem b_law_class (y : Hy K mg base fd k) : Binds K (fd 49) ["_law_error"] [] := y.F_law_class.bindsN fun _ _ _ _ _ _ us hl => match us, hl with | [_], _ => rfl
theorem sc_law_do : FnScope ["_law_console", "_law_deed_here", "_law_look", "e"] ["_law_console", "_law_deed_here"] (defScope st_law_do) := ⟨rfl, rfl, rfl, by decide +kernel, rfl, by decide +kernel, by decide +kernel⟩
theorem b_law_do (y : Hy K mg base fd k) : Binds K (fd 50) ["_law_console", "_law_deed_here"] [] := y.F_law_do.bindsN fun _ _ _ _ _ _ us hl => match us, hl with | [_, _], _ => rfl
theorem sc_law_lost : FnScope ["_law_worth_here", "_law_console", "_law_wish"] ["_law_worth_here"] (defScope st_law_lost) := ⟨rfl, rfl, rfl, by decide +kernel, rfl, by decide +kernel, by decide +kernel⟩
theorem b_law_lost (y : Hy K mg base fd k) : Binds K (fd 51) ["_law_worth_here"] [] := y.F_law_lost.bindsN fun _ _ _ _ _ _ us hl => match us, hl with | [_], _ => rfl
theorem sc_law : FnScope ["_law_script", "_law_draws_here", "_law_sky_here", "_law_console", "_law_k", "_law_before", "_law_plan", "_law_worth_here", "_law_deed_here", "_law_told", "_law_state", "_law_lost_here", "_law_wish", "_law_best_here"] ["_law_script"] (defScope st_law) := ⟨rfl, rfl, rfl, by decide +kernel, rfl, by decide +kernel, by decide +kernel⟩
theorem b_law (y : Hy K mg base fd k) : Binds K (fd 52) ["_law_script"] [] := y.F_law.bindsN fun _ _ _ _ _ _ us hl => match us, hl with | [_], _ => rfl
theorem okPc {w : World} {x qual : Str} {params : Arguments} {body : List Stmt} {scope : Scope} {dvs : List V} {kws : List (Str × V)} {fa : Addr} {fd1 : FuncData} {n lv : Nat} {N ps : List Str} {h : Dt → Option Out} {p : Str × Option Str} (ow : List Nat) (F : FunD K x qual params body scope dvs kws fa fd1) (hfa : fa = He.fAd K p) (S : FnScope N ps scope)
    (hb : ∀ (cdv : Value) (A : Around) (outer : List Env) (s : Shared) (H : Hp) (E : XK) (F0 H0 : Hp), Room lv (A.deeper (envOfC qual scope s.heap.objs.size fa cdv)) → cdv = .ref (He.codeOf K p) → PSs (cxOf (L2.CX Pg w) Pg w K mg base N qual scope fa cdv A outer s H E) body (tS ⟨k, none, F0, H0, ow, E⟩ h))
    (hn : ps.length = n := by rfl) (how : ∀ i ∈ ow, n ≤ i := by decide) : FnOk Pg w K mg base (L2.CX Pg w) (lv + 1) fa fd1 ps (spP k n (runP N h)) := by
  obtain ⟨oc, od, dV, kV, doc, pm, an, cdv, ct, osl, e1, lk, hcd, r1, r2⟩ := F.ex
  subst e1
  obtain ⟨c, ec⟩ := He.codeIn_ref hcd
  have hc : cdv = .ref (He.codeOf K p) := by
    rw [ec]
    have z : He.codeOf K p = c := He.codeOf_eq (by rw [← hfa]; exact lk) ec
    rw [z]
  refine fn_of lk hcd S (fun vs H Q E q => (spP_len q).trans hn.symm) fun A outer s H vs Q E hr ⟨F1, ds, r, e1, tb, r1, hl, hf, q⟩ => ?_
  obtain ⟨o, h1, h2⟩ := Option.bind_eq_some_iff.mp hf
  refine ⟨_, hb cdv A outer s H E F1 H hr hc, F1, startD N ds, o, .refl e1 (fun a z => nomatch z), .start tb r1 (fun i hi => by rw [hl]; exact how i hi), (fun p z => nomatch z), h1, ?_⟩
  cases o with
  | nx δ => cases h2; exact fun σ F' H' b _ _ _ => q _ F' H' b.nx .non
  | rt d δ => cases h2; exact fun v F' H' b _ r' => q v F' H' b.nx r'
  | ex c δ => cases h2; exact fun F' H' dd b _ xd => q F' H' dd b.nx xd
  | bk δ => cases h2
  | ct δ => cases h2
theorem one1 (y : Hy K mg base fd k) : ∀ p ∈ k.T, p.1 = (He.cT K ("parts_of", none)).2 → p.2 = ("parts_of" ++ ".<locals>." : Str) ++ "<lambda>" := fun p hp e => by
  rw [y.kT] at hp
  rcases List.mem_cons.mp hp with rfl | hp
  · rfl
  · obtain rfl := List.mem_singleton.mp hp
    exact absurd e y.nT.symm
theorem one2 (y : Hy K mg base fd k) : ∀ p ∈ k.T, p.1 = (He.cT K ("with_late", none)).2 → p.2 = ("with_late" ++ ".<locals>." : Str) ++ "<lambda>" := fun p hp e => by
  rw [y.kT] at hp
  rcases List.mem_cons.mp hp with rfl | hp
  · exact absurd e y.nT
  · obtain rfl := List.mem_singleton.mp hp
    rfl
theorem passN {X : Cx} : Passes (L2.CX X.prog X.w) X.nox E0 := passL (X := X.nox)
theorem u65 {lv : Nat} {A : Around} (hr : Room lv A) : A.units + 65 < cLine := by have := hr.un; omega
/-- the errors' __init__s as sup_init wants them -/
def Sup0 (qual : Str) (st : Stmt) : Prop := ∃ p0 p1 p2 p3 p4 p5 kk txt ar pl, SupT Pg qual (defArgs st) (defBody st) [] (defScope st) p0 p1 p2 p3 p4 p5 kk txt ar pl ∧
  ∀ (s : Shared) (v : Value) (kV doc pm : Value) (an : Option Addr) (cda cc : Addr) (ct : Value), BindsTo s (PySem.W.ksFn "__init__" qual (defArgs st) (defBody st) (defScope st) .none kV doc pm an (.ref cda) ct cc) ⟨[v], []⟩ [(ar.arg, v)]
theorem S_BadSize : Sup0 "BadSize.__init__" stE_BadSize := ⟨_, _, _, _, _, _, _, _, _, fun env => plainOf _ env, ⟨by kernel_rfl, rfl, rfl, rfl, rfl, rfl, rfl, fun _ => rfl, fun _ _ _ _ => rfl, rfl, rfl, by decide +kernel⟩, fun _ _ _ _ _ _ _ _ _ => BindsTo.of_eq (by kernel_rfl)⟩
theorem S_BadNumber : Sup0 "BadNumber.__init__" stE_BadNumber := ⟨_, _, _, _, _, _, _, _, _, fun env => plainOf _ env, ⟨by kernel_rfl, rfl, rfl, rfl, rfl, rfl, rfl, fun _ => rfl, fun _ _ _ _ => rfl, rfl, rfl, by decide +kernel⟩, fun _ _ _ _ _ _ _ _ _ => BindsTo.of_eq (by kernel_rfl)⟩
theorem S_BadWish : Sup0 "BadWish.__init__" stE_BadWish := ⟨_, _, _, _, _, _, _, _, _, fun env => plainOf _ env, ⟨by kernel_rfl, rfl, rfl, rfl, rfl, rfl, rfl, fun _ => rfl, fun _ _ _ _ => rfl, rfl, rfl, by decide +kernel⟩, fun _ _ _ _ _ _ _ _ _ => BindsTo.of_eq (by kernel_rfl)⟩
theorem S_BadTime : Sup0 "BadTime.__init__" stE_BadTime := ⟨_, _, _, _, _, _, _, _, _, fun env => plainOf _ env, ⟨by kernel_rfl, rfl, rfl, rfl, rfl, rfl, rfl, fun _ => rfl, fun _ _ _ _ => rfl, rfl, rfl, by decide +kernel⟩, fun _ _ _ _ _ _ _ _ _ => BindsTo.of_eq (by kernel_rfl)⟩
theorem S_BadEar : Sup0 "BadEar.__init__" stE_BadEar := ⟨_, _, _, _, _, _, _, _, _, fun env => plainOf _ env, ⟨by kernel_rfl, rfl, rfl, rfl, rfl, rfl, rfl, fun _ => rfl, fun _ _ _ _ => rfl, rfl, rfl, by decide +kernel⟩, fun _ _ _ _ _ _ _ _ _ => BindsTo.of_eq (by kernel_rfl)⟩
theorem S_NotSo : Sup0 "NotSo.__init__" stE_NotSo := ⟨_, _, _, _, _, _, _, _, _, fun env => plainOf _ env, ⟨by kernel_rfl, rfl, rfl, rfl, rfl, rfl, rfl, fun _ => rfl, fun _ _ _ _ => rfl, rfl, rfl, by decide +kernel⟩, fun _ _ _ _ _ _ _ _ _ => BindsTo.of_eq (by kernel_rfl)⟩
def Sup1 (qual : Str) (st : Stmt) (nf : Str) : Prop := ∃ p0 p1 p2 p3 p4 p5 kk txt ar pl q1 q2 q3 q4 na, SupT Pg qual (defArgs st) (defBody st) [.Assign [.Attribute (.Name (Arg.arg ar) q1) nf q2] (.Name na q3) q4] (defScope st) p0 p1 p2 p3 p4 p5 kk txt ar pl ∧
  (∀ (s : Shared) (v u : Value) (kV doc pm : Value) (an : Option Addr) (cda cc : Addr) (ct : Value), BindsTo s (PySem.W.ksFn "__init__" qual (defArgs st) (defBody st) (defScope st) .none kV doc pm an (.ref cda) ct cc) ⟨[v, u], []⟩ [(ar.arg, v), (na, u)]) ∧
  (defScope st).names.lookup na = some .local ∧ (ar.arg == na) = false ∧ (ar.arg == ("__debug__" : Str)) = false ∧ (na == ("__debug__" : Str)) = false ∧ (∀ env, swapsWith (.Name na q3) (some (.Attribute (.Name ar.arg q1) nf q2)) q4.line env = pure false)
theorem S_Clash : Sup1 "Clash.__init__" stE_Clash "wishes" := ⟨_, _, _, _, _, _, _, _, _, fun env => plainOf _ env, _, _, _, _, _, ⟨by kernel_rfl, rfl, rfl, rfl, rfl, rfl, rfl, fun _ => rfl, fun _ _ _ _ => rfl, rfl, rfl, by decide +kernel⟩, fun _ _ _ _ _ _ _ _ _ _ => BindsTo.of_eq (by kernel_rfl), rfl, by decide, by decide, by decide, fun _ => rfl⟩
theorem mk1 {X : Cx} {kk : Cl} {ow : List Nat} {c lv : Nat} {fI : Addr} {x qual nf : Str} {st : Stmt} {p pos : Pos} {e : Expr} {fa : Dt → Option PyData} (hP : X.prog = Pg) (T : SkyC Pg X.K (kk.ec c) fI qual (defArgs st) (defBody st) (defScope st)) (S : Sup1 qual st nf) (sa : PySem.W.findIn X.K (.ref (kk.ec c)) "__setattr__" = some (some (.builtin "object.__setattr__"))) (noN : PySem.W.findIn X.K (.ref (kk.ec c)) nf = some none)
    (hsup : X.mg "super" = none) (hr : Room (lv + 1) X.A) (hg : Gl X x) (hm : X.mg x = some (.ref (kk.ec c))) (ha : PE X e (tD kk ow fa)) (hdb : (x == ("__debug__" : Str)) = false := by decide) (he : starEach (e :: []) X.env = (false, eval e X.env) :: starEach [] X.env := by rfl) (hpl : (backTo pos (starEach [] X.env)).any (·.1) = false := by rfl) :
    PMk X (.Call (.Name x p) [e] [] pos) (tEx kk ow c (aCons fa aNil)) := by
  obtain ⟨p0, p1, p2, p3, p4, p5, k0, txt, ar, pl, q1, q2, q3, q4, na, S1, hb, h1, h2, h3, h4, h5⟩ := S
  rw [← hP] at T S1
  exact pmk_sky1 T S1 sa noN hsup hr hg hm hb h1 h2 h3 h4 h5 ha hdb he hpl
/-- a def's promise, told with the classes the other way round, of data without instances -/
def swP (f : List PyData → Option Rs) : List PyData → Option Rs := fun ds => if plainAll ds = true then (match f ds with
  | some (.ok d) => if plain d = true then some (.ok d) else none
  | _ => none) else none
theorem ok_sw {w : World} {lv n : Nat} {fa : Addr} {fd1 : FuncData} {ps : List Str} {f : List PyData → Option Rs} (G : FnOk Pg w K mg base (L2.CX Pg w) lv fa fd1 ps (spP k n f)) : FnOk Pg w K mg base (L2.CX Pg w) lv fa fd1 ps (spP k.sw n (swP f)) := G.imp fun vs H Q E ⟨F, ds, r, e1, tb, r1, hl, hf, q⟩ => by
  unfold swP at hf
  split at hf
  · rename_i hp
    split at hf
    · rename_i d hfd
      split at hf
      · rename_i hpd
        cases hf
        exact ⟨F, ds, .ok d, e1, tb, r1.to hp, hl, hfd, fun v F' H' n' r' => q v F' H' n' (r'.to hpd)⟩
      · cases hf
    · cases hf
  · cases hf
theorem mk0 {X : Cx} {kk : Cl} {ow : List Nat} {c lv : Nat} {fI : Addr} {x qual : Str} {st : Stmt} {p pos : Pos} (hP : X.prog = Pg) (T : SkyC Pg X.K (kk.ec c) fI qual (defArgs st) (defBody st) (defScope st)) (S : Sup0 qual st) (hsup : X.mg "super" = none) (hr : Room (lv + 1) X.A) (hg : Gl X x) (hm : X.mg x = some (.ref (kk.ec c)))
    (hdb : (x == ("__debug__" : Str)) = false := by decide) : PMk X (.Call (.Name x p) [] [] pos) (tEx kk ow c aNil) := by
  obtain ⟨p0, p1, p2, p3, p4, p5, k0, txt, ar, pl, S1, hb⟩ := S
  rw [← hP] at T S1
  exact pmk_sky0 T S1 hsup hr hg hm hb hdb
end
end Sk
set_option Elab.async false
set_option linter.all false
set_option maxRecDepth 100000
set_option maxHeartbeats 4000000
/-! Walks of the program's defs. Printed by walk.py. -/
namespace Sk
open PySem PySem.Spec PyProof.Rows L2 Dl PySem.SkyX
section
variable {K : PySem.W.Frag} {mg : Str → Option Value} {base : Heap} {fd : Nat → FuncData} {k : Cl}
def h_is_within : Dt → Option Out := (stRet (vAnd (b1 (isTy tbInt) (vr 0)) (vAnd (vNot (b1 (isTy tbBool) (vr 0))) (chD leI leI (vr 1) (vr 0) (vr 2)))))
def f_is_within : List PyData → Option Rs := runP ["value", "low", "high"] h_is_within
theorem ok_is_within {w : World} (y : Hy K mg base fd k) : FnOk Pg w K mg base (L2.CX Pg w) 1 (A_is_within K) (fd 0) ["value", "low", "high"] (spP k 3 f_is_within) := by
  have nd := (sc_is_within).nd
  refine okP (h := h_is_within) [] y.F_is_within sc_is_within fun cdv A outer s H E F0 H0 hr => ?_
  exact (dss_one (ds_ret (d_and (d_isi (by rfl) y.b_isinstance (by rfl) (by rfl) y.b_int (by rfl) (by decide) (by decide) tbInt_ok (d_var (pv 0) (by decide : ¬ 0 ∈ ([] : List Nat)))) (d_and (d_not (d_isi (by rfl) y.b_isinstance (by rfl) (by rfl) y.b_bool (by rfl) (by decide) (by decide) tbBool_ok (d_var (pv 0) (by decide : ¬ 0 ∈ ([] : List Nat))))) (d_one (d_chain op_le op_le o_le o_le (d_var (pv 1) (by decide : ¬ 1 ∈ ([] : List Nat))) (d_var (pv 0) (by decide : ¬ 0 ∈ ([] : List Nat))) (d_var (pv 2) (by decide : ¬ 2 ∈ ([] : List Nat)))))))))
def h_check_look : Dt → Option Out := (sq (stG (vr 0) (gT 5 (gsCons (setD 3) (gsCons (setD 4) (gsCons (setD 5) (gsCons (setD 6) (gsCons (setD 7) gsNil)))))))
  (sq (stIf (tNotD (tB (bA (gN 3 f_is_within) (aCons (vr 3) (aCons (cD (.int 0)) (aCons (b2 subI (vr 1) (cD (.int 1))) aNil))))))
  (stRaise 2 aNil)
  stNx)
  (sq (stIf (tOrD (tNotD (tB (bA (gN 3 f_is_within) (aCons (vr 4) (aCons (cD (.int 0)) (aCons (cD (.int 200)) aNil)))))) (tOrD (tNotD (tB (bA (gN 3 f_is_within) (aCons (vr 5) (aCons (cD (.int 1)) (aCons (cD (.int 20)) aNil)))))) (tB (b2 ltI (vr 4) (vr 2)))))
  (stRaise 3 aNil)
  stNx)
  (stIf (tOrD (tNotD (tB (bA (gN 3 f_is_within) (aCons (vr 6) (aCons (b1 negI (cD (.int 90))) (aCons (cD (.int 90)) aNil)))))) (tNotD (tB (bA (gN 3 f_is_within) (aCons (vr 7) (aCons (cD (.int 1)) (aCons (cD (.int 30)) aNil)))))))
  (stRaise 1 aNil)
  stNx))))
def f_check_look : List PyData → Option Rs := runP ["look", "many", "since", "wish", "start", "length", "angle", "size"] h_check_look
theorem ok_check_look {w : World} (y : Hy K mg base fd k) : FnOk Pg w K mg base (L2.CX Pg w) 2 (A_check_look K) (fd 1) ["look", "many", "since"] (spP k 3 f_check_look) := by
  have nd := (sc_check_look).nd
  refine okP (h := h_check_look) [] y.F_check_look sc_check_look fun cdv A outer s H E F0 H0 hr => ?_
  exact (dss_cons (ds_G (ps_asg (d_var (pv 0) (by decide : ¬ 0 ∈ ([] : List Nat))) (dg_tup rfl (dgs_cons (dg_name (pg_name nd (i := 3) rfl (Or.inl rfl)) (by decide : ¬ 3 ∈ ([] : List Nat))) (dgs_cons (dg_name (pg_name nd (i := 4) rfl (Or.inl rfl)) (by decide : ¬ 4 ∈ ([] : List Nat))) (dgs_cons (dg_name (pg_name nd (i := 5) rfl (Or.inl rfl)) (by decide : ¬ 5 ∈ ([] : List Nat))) (dgs_cons (dg_name (pg_name nd (i := 6) rfl (Or.inl rfl)) (by decide : ¬ 6 ∈ ([] : List Nat))) (dgs_cons (dg_name (pg_name nd (i := 7) rfl (Or.inl rfl)) (by decide : ¬ 7 ∈ ([] : List Nat))) dgs_nil))))))) (by decide : ∀ j ∈ ([3, 4, 5, 6, 7] : List Nat), j ∉ ([] : List Nat)))
    (dss_cons (ds_if (dt_not (dt_val (d_call (ok_is_within y) (hr.mono (by decide : 1 ≤ 1)) (by rfl) y.m_is_within y.F_is_within.kp (b_is_within y) (da_cons (d_var (pv 3) (by decide : ¬ 3 ∈ ([] : List Nat))) (da_cons d_int (da_cons (d_op op_sub o_sub (d_var (pv 1) (by decide : ¬ 1 ∈ ([] : List Nat))) d_int) da_nil)))) (by intro _; rfl)))
    (dss_one (ds_raise rfl (takes_of rfl rfl rfl rfl) (mk0 rfl y.E_BadWish S_BadWish y.m_super (hr.mono (by decide : 1 ≤ 1)) (by rfl) y.m_BadWish)))
    dss_nil)
    (dss_cons (ds_if (PW.pt (dw_or (dt_not (dt_val (d_call (ok_is_within y) (hr.mono (by decide : 1 ≤ 1)) (by rfl) y.m_is_within y.F_is_within.kp (b_is_within y) (da_cons (d_var (pv 4) (by decide : ¬ 4 ∈ ([] : List Nat))) (da_cons d_int (da_cons (d_cst y.c_LAST rfl) da_nil)))) (by intro _; rfl))) (dw_or (dt_not (dt_val (d_call (ok_is_within y) (hr.mono (by decide : 1 ≤ 1)) (by rfl) y.m_is_within y.F_is_within.kp (b_is_within y) (da_cons (d_var (pv 5) (by decide : ¬ 5 ∈ ([] : List Nat))) (da_cons d_int (da_cons d_int da_nil)))) (by intro _; rfl))) (dw_or1 (dt_cmp op_lt o_lt (d_var (pv 4) (by decide : ¬ 4 ∈ ([] : List Nat))) (d_var (pv 2) (by decide : ¬ 2 ∈ ([] : List Nat))) (nomark _))))))
    (dss_one (ds_raise rfl (takes_of rfl rfl rfl rfl) (mk0 rfl y.E_BadTime S_BadTime y.m_super (hr.mono (by decide : 1 ≤ 1)) (by rfl) y.m_BadTime)))
    dss_nil)
    (dss_one (ds_if (PW.pt (dw_or (dt_not (dt_val (d_call (ok_is_within y) (hr.mono (by decide : 1 ≤ 1)) (by rfl) y.m_is_within y.F_is_within.kp (b_is_within y) (da_cons (d_var (pv 6) (by decide : ¬ 6 ∈ ([] : List Nat))) (da_cons (d_un un_neg o_neg d_int) (da_cons d_int da_nil)))) (by intro _; rfl))) (dw_or1 (dt_not (dt_val (d_call (ok_is_within y) (hr.mono (by decide : 1 ≤ 1)) (by rfl) y.m_is_within y.F_is_within.kp (b_is_within y) (da_cons (d_var (pv 7) (by decide : ¬ 7 ∈ ([] : List Nat))) (da_cons d_int (da_cons d_int da_nil)))) (by intro _; rfl))))))
    (dss_one (ds_raise rfl (takes_of rfl rfl rfl rfl) (mk0 rfl y.E_BadNumber S_BadNumber y.m_super (hr.mono (by decide : 1 ≤ 1)) (by rfl) y.m_BadNumber)))
    dss_nil)))))
def h_check_ear : Dt → Option Out := (sq (stG (vr 0) (gT 3 (gsCons (setD 2) (gsCons (setD 3) (gsCons (setD 4) gsNil)))))
  (sq (stIf (tOrD (tNotD (tB (bA (gN 3 f_is_within) (aCons (vr 2) (aCons (vr 1) (aCons (cD (.int 200)) aNil)))))) (tNotD (tB (bA (gN 3 f_is_within) (aCons (vr 3) (aCons (b2 addI (vr 2) (cD (.int 1))) (aCons (cD (.int 200)) aNil)))))))
  (stRaise 3 aNil)
  stNx)
  (stIf (tNotD (tB (bA (gN 3 f_is_within) (aCons (vr 4) (aCons (cD (.int 1)) (aCons (cD (.int 30)) aNil))))))
  (stRaise 1 aNil)
  stNx)))
def f_check_ear : List PyData → Option Rs := runP ["ear", "since", "first", "last", "rate"] h_check_ear
theorem ok_check_ear {w : World} (y : Hy K mg base fd k) : FnOk Pg w K mg base (L2.CX Pg w) 2 (A_check_ear K) (fd 2) ["ear", "since"] (spP k 2 f_check_ear) := by
  have nd := (sc_check_ear).nd
  refine okP (h := h_check_ear) [] y.F_check_ear sc_check_ear fun cdv A outer s H E F0 H0 hr => ?_
  exact (dss_cons (ds_G (ps_asg (d_var (pv 0) (by decide : ¬ 0 ∈ ([] : List Nat))) (dg_tup rfl (dgs_cons (dg_name (pg_name nd (i := 2) rfl (Or.inl rfl)) (by decide : ¬ 2 ∈ ([] : List Nat))) (dgs_cons (dg_name (pg_name nd (i := 3) rfl (Or.inl rfl)) (by decide : ¬ 3 ∈ ([] : List Nat))) (dgs_cons (dg_name (pg_name nd (i := 4) rfl (Or.inl rfl)) (by decide : ¬ 4 ∈ ([] : List Nat))) dgs_nil))))) (by decide : ∀ j ∈ ([2, 3, 4] : List Nat), j ∉ ([] : List Nat)))
    (dss_cons (ds_if (PW.pt (dw_or (dt_not (dt_val (d_call (ok_is_within y) (hr.mono (by decide : 1 ≤ 1)) (by rfl) y.m_is_within y.F_is_within.kp (b_is_within y) (da_cons (d_var (pv 2) (by decide : ¬ 2 ∈ ([] : List Nat))) (da_cons (d_var (pv 1) (by decide : ¬ 1 ∈ ([] : List Nat))) (da_cons (d_cst y.c_LAST rfl) da_nil)))) (by intro _; rfl))) (dw_or1 (dt_not (dt_val (d_call (ok_is_within y) (hr.mono (by decide : 1 ≤ 1)) (by rfl) y.m_is_within y.F_is_within.kp (b_is_within y) (da_cons (d_var (pv 3) (by decide : ¬ 3 ∈ ([] : List Nat))) (da_cons (d_op op_add o_add (d_var (pv 2) (by decide : ¬ 2 ∈ ([] : List Nat))) d_int) (da_cons (d_cst y.c_LAST rfl) da_nil)))) (by intro _; rfl))))))
    (dss_one (ds_raise rfl (takes_of rfl rfl rfl rfl) (mk0 rfl y.E_BadTime S_BadTime y.m_super (hr.mono (by decide : 1 ≤ 1)) (by rfl) y.m_BadTime)))
    dss_nil)
    (dss_one (ds_if (dt_not (dt_val (d_call (ok_is_within y) (hr.mono (by decide : 1 ≤ 1)) (by rfl) y.m_is_within y.F_is_within.kp (b_is_within y) (da_cons (d_var (pv 4) (by decide : ¬ 4 ∈ ([] : List Nat))) (da_cons d_int (da_cons d_int da_nil)))) (by intro _; rfl)))
    (dss_one (ds_raise rfl (takes_of rfl rfl rfl rfl) (mk0 rfl y.E_BadNumber S_BadNumber y.m_super (hr.mono (by decide : 1 ≤ 1)) (by rfl) y.m_BadNumber)))
    dss_nil))))
def cp_check_sky_1 : Dt → Option PyData := (lcD [6] (listI (vr 2)) (setD 6) (fun _ => some true) (bA (gN 3 f_is_within) (aCons (vr 6) (aCons (cD (.int 0)) (aCons (cD (.int 99)) aNil)))))
def lp_check_sky_1 : Dt → Option Out := (sq (stE (eCall 3 f_check_look (aCons (vr 8) (aCons (bA lenD (aCons (vr 2) aNil)) (aCons (vr 7) aNil)))))
  (stSet 7 (b2 ixD (vr 8) (cD (.int 1)))))
def lp_check_sky_2 : Dt → Option Out := (sq (stE (eCall 2 f_check_ear (aCons (vr 9) (aCons (vr 7) aNil))))
  (stSet 7 (b2 ixD (vr 9) (cD (.int 1)))))
def h_check_sky : Dt → Option Out := (sq (stG (vr 0) (gT 5 (gsCons (setD 1) (gsCons (setD 2) (gsCons (setD 3) (gsCons (setD 4) (gsCons (setD 5) gsNil)))))))
  (sq (stIf (tNotD (tB (chD leI leI (cD (.int 1)) (bA lenD (aCons (vr 2) aNil)) (cD (.int 6)))))
  (stRaise 0 aNil)
  stNx)
  (sq (stIf (tNotD (tB (bA allD (aCons (asL cp_check_sky_1) aNil))))
  (stRaise 1 aNil)
  stNx)
  (sq (stIf (tB (b2 gtI (bA lenD (aCons (vr 1) aNil)) (cD (.int 16))))
  (stRaise 0 aNil)
  stNx)
  (sq (stSet 7 (cD (.int 0)))
  (sq (stFor (listI (vr 1)) (setD 8) lp_check_sky_1)
  (sq (stIf (tB (b2 gtI (bA lenD (aCons (vr 3) aNil)) (cD (.int 4))))
  (stRaise 0 aNil)
  stNx)
  (sq (stSet 7 (cD (.int 0)))
  (sq (stFor (listI (vr 3)) (setD 9) lp_check_sky_2)
  (stIf (tOrD (tNotD (tB (bA (gN 3 f_is_within) (aCons (vr 4) (aCons (cD (.int 1)) (aCons (cD (.int 30)) aNil)))))) (tNotD (tB (bA (gN 3 f_is_within) (aCons (vr 5) (aCons (cD (.int 1)) (aCons (cD (.int 90)) aNil)))))))
  (stRaise 1 aNil)
  stNx))))))))))
def f_check_sky : List PyData → Option Rs := runP ["sky", "looks", "worths", "ears", "capacity", "turn", "worth", "since", "look", "ear"] h_check_sky
theorem ok_check_sky {w : World} (y : Hy K mg base fd k) : FnOk Pg w K mg base (L2.CX Pg w) 3 (A_check_sky K) (fd 3) ["sky"] (spP k 1 f_check_sky) := by
  have nd := (sc_check_sky).nd
  refine okP (h := h_check_sky) [] y.F_check_sky sc_check_sky fun cdv A outer s H E F0 H0 hr => ?_
  exact (dss_cons (ds_G (ps_asg (d_var (pv 0) (by decide : ¬ 0 ∈ ([] : List Nat))) (dg_tup rfl (dgs_cons (dg_name (pg_name nd (i := 1) rfl (Or.inl rfl)) (by decide : ¬ 1 ∈ ([] : List Nat))) (dgs_cons (dg_name (pg_name nd (i := 2) rfl (Or.inl rfl)) (by decide : ¬ 2 ∈ ([] : List Nat))) (dgs_cons (dg_name (pg_name nd (i := 3) rfl (Or.inl rfl)) (by decide : ¬ 3 ∈ ([] : List Nat))) (dgs_cons (dg_name (pg_name nd (i := 4) rfl (Or.inl rfl)) (by decide : ¬ 4 ∈ ([] : List Nat))) (dgs_cons (dg_name (pg_name nd (i := 5) rfl (Or.inl rfl)) (by decide : ¬ 5 ∈ ([] : List Nat))) dgs_nil))))))) (by decide : ∀ j ∈ ([1, 2, 3, 4, 5] : List Nat), j ∉ ([] : List Nat)))
    (dss_cons (ds_if (dt_not (dt_chain op_le op_le o_le o_le d_int (d_callB call_len_seq o_len (by rfl) y.b_len (by rfl) (da_cons (d_var (pv 2) (by decide : ¬ 2 ∈ ([] : List Nat))) da_nil)) (d_cst y.c_MOST_WISHES rfl)))
    (dss_one (ds_raise rfl (takes_of rfl rfl rfl rfl) (mk0 rfl y.E_BadSize S_BadSize y.m_super (hr.mono (by decide : 1 ≤ 2)) (by rfl) y.m_BadSize)))
    dss_nil)
    (dss_cons (ds_if (dt_not (dt_val (d_callB (cr_all rfl) o_all (by rfl) y.b_all (by rfl) (da_cons (d_ofN (dn_lc (own := [("worth", 6)]) rfl nd (di_weak (di_list (d_var (pv 2) (by decide : ¬ 2 ∈ ([] : List Nat))))) (blkOk_by (N := ["sky", "looks", "worths", "ears", "capacity", "turn", "worth", "since", "look", "ear"]) (sc := defScope st_check_sky) (by decide +kernel)) (fun _ _ _ _ _ => (dg_name (pg_name nd (i := 6) rfl (Or.inl rfl)) (by decide : ¬ 6 ∈ ([] : List Nat)))) (fun _ _ _ _ _ => dts_nil) (fun _ _ _ _ _ => (d_call (ok_is_within y) (hr.mono (by decide : 1 ≤ 2)) (by rfl) y.m_is_within y.F_is_within.kp (b_is_within y) (da_cons (d_var (pv 6) (by decide : ¬ 6 ∈ ([] : List Nat))) (da_cons d_int (da_cons d_int da_nil))))))) da_nil)) (by intro _; rfl)))
    (dss_one (ds_raise rfl (takes_of rfl rfl rfl rfl) (mk0 rfl y.E_BadNumber S_BadNumber y.m_super (hr.mono (by decide : 1 ≤ 2)) (by rfl) y.m_BadNumber)))
    dss_nil)
    (dss_cons (ds_if (dt_cmp op_gt o_gt (d_callB call_len_seq o_len (by rfl) y.b_len (by rfl) (da_cons (d_var (pv 1) (by decide : ¬ 1 ∈ ([] : List Nat))) da_nil)) (d_cst y.c_MOST_LOOKS rfl) (nomark _))
    (dss_one (ds_raise rfl (takes_of rfl rfl rfl rfl) (mk0 rfl y.E_BadSize S_BadSize y.m_super (hr.mono (by decide : 1 ≤ 2)) (by rfl) y.m_BadSize)))
    dss_nil)
    (dss_cons (ds_set (ps_set nd (i := 7) rfl (Or.inl rfl) d_int) (by decide : ¬ 7 ∈ ([] : List Nat)))
    (dss_cons (ds_for (passes_of rfl) rfl (di_list (d_var (pv 1) (by decide : ¬ 1 ∈ ([] : List Nat)))) (dg_name (pg_name nd (i := 8) rfl (Or.inl rfl)) (by decide : ¬ 8 ∈ ([] : List Nat)))
    (dss_cons (ds_exprE (e_call (ok_check_look y) (takes_of rfl rfl rfl rfl) (hr.mono (by decide : 2 ≤ 2)) (by rfl) y.m_check_look y.F_check_look.kp (b_check_look y) (da_cons (d_var (pv 8) (by decide : ¬ 8 ∈ ([] : List Nat))) (da_cons (d_callB call_len_seq o_len (by rfl) y.b_len (by rfl) (da_cons (d_var (pv 2) (by decide : ¬ 2 ∈ ([] : List Nat))) da_nil)) (da_cons (d_var (pv 7) (by decide : ¬ 7 ∈ ([] : List Nat))) da_nil)))))
    (dss_one (ds_set (ps_set nd (i := 7) rfl (Or.inl rfl) (d_ix ix_seq o_ix (d_var (pv 8) (by decide : ¬ 8 ∈ ([] : List Nat))) d_int fun _ _ => rfl)) (by decide : ¬ 7 ∈ ([] : List Nat))))) (by decide : ∀ j ∈ ([8] : List Nat), j ∉ ([] : List Nat)))
    (dss_cons (ds_if (dt_cmp op_gt o_gt (d_callB call_len_seq o_len (by rfl) y.b_len (by rfl) (da_cons (d_var (pv 3) (by decide : ¬ 3 ∈ ([] : List Nat))) da_nil)) (d_cst y.c_MOST_EARS rfl) (nomark _))
    (dss_one (ds_raise rfl (takes_of rfl rfl rfl rfl) (mk0 rfl y.E_BadSize S_BadSize y.m_super (hr.mono (by decide : 1 ≤ 2)) (by rfl) y.m_BadSize)))
    dss_nil)
    (dss_cons (ds_set (ps_set nd (i := 7) rfl (Or.inl rfl) d_int) (by decide : ¬ 7 ∈ ([] : List Nat)))
    (dss_cons (ds_for (passes_of rfl) rfl (di_list (d_var (pv 3) (by decide : ¬ 3 ∈ ([] : List Nat)))) (dg_name (pg_name nd (i := 9) rfl (Or.inl rfl)) (by decide : ¬ 9 ∈ ([] : List Nat)))
    (dss_cons (ds_exprE (e_call (ok_check_ear y) (takes_of rfl rfl rfl rfl) (hr.mono (by decide : 2 ≤ 2)) (by rfl) y.m_check_ear y.F_check_ear.kp (b_check_ear y) (da_cons (d_var (pv 9) (by decide : ¬ 9 ∈ ([] : List Nat))) (da_cons (d_var (pv 7) (by decide : ¬ 7 ∈ ([] : List Nat))) da_nil))))
    (dss_one (ds_set (ps_set nd (i := 7) rfl (Or.inl rfl) (d_ix ix_seq o_ix (d_var (pv 9) (by decide : ¬ 9 ∈ ([] : List Nat))) d_int fun _ _ => rfl)) (by decide : ¬ 7 ∈ ([] : List Nat))))) (by decide : ∀ j ∈ ([9] : List Nat), j ∉ ([] : List Nat)))
    (dss_one (ds_if (PW.pt (dw_or (dt_not (dt_val (d_call (ok_is_within y) (hr.mono (by decide : 1 ≤ 2)) (by rfl) y.m_is_within y.F_is_within.kp (b_is_within y) (da_cons (d_var (pv 4) (by decide : ¬ 4 ∈ ([] : List Nat))) (da_cons d_int (da_cons d_int da_nil)))) (by intro _; rfl))) (dw_or1 (dt_not (dt_val (d_call (ok_is_within y) (hr.mono (by decide : 1 ≤ 2)) (by rfl) y.m_is_within y.F_is_within.kp (b_is_within y) (da_cons (d_var (pv 5) (by decide : ¬ 5 ∈ ([] : List Nat))) (da_cons d_int (da_cons d_int da_nil)))) (by intro _; rfl))))))
    (dss_one (ds_raise rfl (takes_of rfl rfl rfl rfl) (mk0 rfl y.E_BadNumber S_BadNumber y.m_super (hr.mono (by decide : 1 ≤ 2)) (by rfl) y.m_BadNumber)))
    dss_nil)))))))))))
def h_end_of : Dt → Option Out := (sq (stG (b2 ixD (b2 ixD (vr 0) (cD (.int 0))) (vr 1)) (gT 5 (gsCons (setD 2) (gsCons (setD 3) (gsCons (setD 4) (gsCons (setD 5) (gsCons (setD 6) gsNil)))))))
  (stRet (b2 addI (vr 3) (vr 4))))
def f_end_of : List PyData → Option Rs := runP ["sky", "look", "wish", "start", "length", "angle", "size"] h_end_of
theorem ok_end_of {w : World} (y : Hy K mg base fd k) : FnOk Pg w K mg base (L2.CX Pg w) 1 (A_end_of K) (fd 4) ["sky", "look"] (spP k 2 f_end_of) := by
  have nd := (sc_end_of).nd
  refine okP (h := h_end_of) [] y.F_end_of sc_end_of fun cdv A outer s H E F0 H0 hr => ?_
  exact (dss_cons (ds_G (ps_asg (d_ix ix_seq o_ix (d_ix ix_seq o_ix (d_var (pv 0) (by decide : ¬ 0 ∈ ([] : List Nat))) d_int fun _ _ => rfl) (d_var (pv 1) (by decide : ¬ 1 ∈ ([] : List Nat))) fun _ _ => rfl) (dg_tup rfl (dgs_cons (dg_name (pg_name nd (i := 2) rfl (Or.inl rfl)) (by decide : ¬ 2 ∈ ([] : List Nat))) (dgs_cons (dg_name (pg_name nd (i := 3) rfl (Or.inl rfl)) (by decide : ¬ 3 ∈ ([] : List Nat))) (dgs_cons (dg_name (pg_name nd (i := 4) rfl (Or.inl rfl)) (by decide : ¬ 4 ∈ ([] : List Nat))) (dgs_cons (dg_name (pg_name nd (i := 5) rfl (Or.inl rfl)) (by decide : ¬ 5 ∈ ([] : List Nat))) (dgs_cons (dg_name (pg_name nd (i := 6) rfl (Or.inl rfl)) (by decide : ¬ 6 ∈ ([] : List Nat))) dgs_nil))))))) (by decide : ∀ j ∈ ([2, 3, 4, 5, 6] : List Nat), j ∉ ([] : List Nat)))
    (dss_one (ds_ret (d_op op_add o_add (d_var (pv 3) (by decide : ¬ 3 ∈ ([] : List Nat))) (d_var (pv 4) (by decide : ¬ 4 ∈ ([] : List Nat)))))))
def h_turning : Dt → Option Out := (stRet (b1 negI (b2 fdivP (b1 negI (bA absI (aCons (b2 subI (b2 ixD (b2 ixD (b2 ixD (vr 0) (cD (.int 0))) (vr 2)) (cD (.int 3))) (b2 ixD (b2 ixD (b2 ixD (vr 0) (cD (.int 0))) (vr 1)) (cD (.int 3)))) aNil))) (b2 ixD (vr 0) (cD (.int 4))))))
def f_turning : List PyData → Option Rs := runP ["sky", "first", "second"] h_turning
theorem ok_turning {w : World} (y : Hy K mg base fd k) : FnOk Pg w K mg base (L2.CX Pg w) 1 (A_turning K) (fd 5) ["sky", "first", "second"] (spP k 3 f_turning) := by
  have nd := (sc_turning).nd
  refine okP (h := h_turning) [] y.F_turning sc_turning fun cdv A outer s H E F0 H0 hr => ?_
  exact (dss_one (ds_ret (d_un un_neg o_neg (d_op op_fdiv o_fdivP (d_un un_neg o_neg (d_callB call_abs o_abs (by rfl) y.b_abs (by rfl) (da_cons (d_op op_sub o_sub (d_ix ix_seq o_ix (d_ix ix_seq o_ix (d_ix ix_seq o_ix (d_var (pv 0) (by decide : ¬ 0 ∈ ([] : List Nat))) d_int fun _ _ => rfl) (d_var (pv 2) (by decide : ¬ 2 ∈ ([] : List Nat))) fun _ _ => rfl) d_int fun _ _ => rfl) (d_ix ix_seq o_ix (d_ix ix_seq o_ix (d_ix ix_seq o_ix (d_var (pv 0) (by decide : ¬ 0 ∈ ([] : List Nat))) d_int fun _ _ => rfl) (d_var (pv 1) (by decide : ¬ 1 ∈ ([] : List Nat))) fun _ _ => rfl) d_int fun _ _ => rfl)) da_nil))) (d_ix ix_seq o_ix (d_var (pv 0) (by decide : ¬ 0 ∈ ([] : List Nat))) d_int fun _ _ => rfl)))))
def lp_loss_1 : Dt → Option Out := (stAug 3 (fun i j => i + j) (b2 mulI (vr 6) (bA max2 (aCons (cD (.int 0)) (aCons (b2 subI (bA min2 (aCons (vr 2) (aCons (vr 5) aNil))) (bA max2 (aCons (vr 1) (aCons (vr 4) aNil)))) aNil)))))
def h_loss : Dt → Option Out := (sq (stSet 3 (cD (.int 0)))
  (sq (stFor (listI (vr 0)) (gT 3 (gsCons (setD 4) (gsCons (setD 5) (gsCons (setD 6) gsNil)))) lp_loss_1)
  (stRet (vr 3))))
def f_loss : List PyData → Option Rs := runP ["ears", "since", "until", "found", "first", "last", "rate"] h_loss
theorem ok_loss {w : World} (y : Hy K mg base fd k) : FnOk Pg w K mg base (L2.CX Pg w) 1 (A_loss K) (fd 6) ["ears", "since", "until"] (spP k 3 f_loss) := by
  have nd := (sc_loss).nd
  refine okP (h := h_loss) [] y.F_loss sc_loss fun cdv A outer s H E F0 H0 hr => ?_
  exact (dss_cons (ds_set (ps_set nd (i := 3) rfl (Or.inl rfl) d_int) (by decide : ¬ 3 ∈ ([] : List Nat)))
    (dss_cons (ds_for (passes_of rfl) rfl (di_list (d_var (pv 0) (by decide : ¬ 0 ∈ ([] : List Nat)))) (dg_tup rfl (dgs_cons (dg_name (pg_name nd (i := 4) rfl (Or.inl rfl)) (by decide : ¬ 4 ∈ ([] : List Nat))) (dgs_cons (dg_name (pg_name nd (i := 5) rfl (Or.inl rfl)) (by decide : ¬ 5 ∈ ([] : List Nat))) (dgs_cons (dg_name (pg_name nd (i := 6) rfl (Or.inl rfl)) (by decide : ¬ 6 ∈ ([] : List Nat))) dgs_nil))))
    (dss_one (ds_aug (ps_aug nd (i := 3) rfl (Or.inl rfl) (d_op op_mul o_mul (d_var (pv 6) (by decide : ¬ 6 ∈ ([] : List Nat))) (d_callB (call_max2 rfl) o_max2 (by rfl) y.b_max (by rfl) (da_cons d_int (da_cons (d_op op_sub o_sub (d_callB (call_min2 rfl) o_min2 (by rfl) y.b_min (by rfl) (da_cons (d_var (pv 2) (by decide : ¬ 2 ∈ ([] : List Nat))) (da_cons (d_var (pv 5) (by decide : ¬ 5 ∈ ([] : List Nat))) da_nil))) (d_callB (call_max2 rfl) o_max2 (by rfl) y.b_max (by rfl) (da_cons (d_var (pv 1) (by decide : ¬ 1 ∈ ([] : List Nat))) (da_cons (d_var (pv 4) (by decide : ¬ 4 ∈ ([] : List Nat))) da_nil)))) da_nil)))) ip_add) (by decide : ¬ 3 ∈ ([] : List Nat)))) (by decide : ∀ j ∈ ([4, 5, 6] : List Nat), j ∉ ([] : List Nat)))
    (dss_one (ds_ret (d_var (pv 3) (by decide : ¬ 3 ∈ ([] : List Nat)))))))
def h_emptied : Dt → Option Out := (stRet (bA max2 (aCons (cD (.int 0)) (aCons (b2 subI (vr 1) (bA (gN 3 f_loss) (aCons (b2 ixD (vr 0) (cD (.int 2))) (aCons (vr 2) (aCons (vr 3) aNil))))) aNil))))
def f_emptied : List PyData → Option Rs := runP ["sky", "amount", "since", "until"] h_emptied
theorem ok_emptied {w : World} (y : Hy K mg base fd k) : FnOk Pg w K mg base (L2.CX Pg w) 2 (A_emptied K) (fd 7) ["sky", "amount", "since", "until"] (spP k 4 f_emptied) := by
  have nd := (sc_emptied).nd
  refine okP (h := h_emptied) [] y.F_emptied sc_emptied fun cdv A outer s H E F0 H0 hr => ?_
  exact (dss_one (ds_ret (d_callB (call_max2 rfl) o_max2 (by rfl) y.b_max (by rfl) (da_cons d_int (da_cons (d_op op_sub o_sub (d_var (pv 1) (by decide : ¬ 1 ∈ ([] : List Nat))) (d_call (ok_loss y) (hr.mono (by decide : 1 ≤ 1)) (by rfl) y.m_loss y.F_loss.kp (b_loss y) (da_cons (d_ix ix_seq o_ix (d_var (pv 0) (by decide : ¬ 0 ∈ ([] : List Nat))) d_int fun _ _ => rfl) (da_cons (d_var (pv 2) (by decide : ¬ 2 ∈ ([] : List Nat))) (da_cons (d_var (pv 3) (by decide : ¬ 3 ∈ ([] : List Nat))) da_nil))))) da_nil)))))
def h_follows : Dt → Option Out := (stRet (b2 geI (b2 ixD (b2 ixD (b2 ixD (vr 0) (cD (.int 0))) (vr 2)) (cD (.int 1))) (b2 addI (bA (gN 2 f_end_of) (aCons (vr 0) (aCons (vr 1) aNil))) (bA (gN 3 f_turning) (aCons (vr 0) (aCons (vr 1) (aCons (vr 2) aNil)))))))
def f_follows : List PyData → Option Rs := runP ["sky", "first", "second"] h_follows
theorem ok_follows {w : World} (y : Hy K mg base fd k) : FnOk Pg w K mg base (L2.CX Pg w) 2 (A_follows K) (fd 8) ["sky", "first", "second"] (spP k 3 f_follows) := by
  have nd := (sc_follows).nd
  refine okP (h := h_follows) [] y.F_follows sc_follows fun cdv A outer s H E F0 H0 hr => ?_
  exact (dss_one (ds_ret (d_cmp op_ge o_ge (d_ix ix_seq o_ix (d_ix ix_seq o_ix (d_ix ix_seq o_ix (d_var (pv 0) (by decide : ¬ 0 ∈ ([] : List Nat))) d_int fun _ _ => rfl) (d_var (pv 2) (by decide : ¬ 2 ∈ ([] : List Nat))) fun _ _ => rfl) d_int fun _ _ => rfl) (d_op op_add o_add (d_call (ok_end_of y) (hr.mono (by decide : 1 ≤ 1)) (by rfl) y.m_end_of y.F_end_of.kp (b_end_of y) (da_cons (d_var (pv 0) (by decide : ¬ 0 ∈ ([] : List Nat))) (da_cons (d_var (pv 1) (by decide : ¬ 1 ∈ ([] : List Nat))) da_nil))) (d_call (ok_turning y) (hr.mono (by decide : 1 ≤ 1)) (by rfl) y.m_turning y.F_turning.kp (b_turning y) (da_cons (d_var (pv 0) (by decide : ¬ 0 ∈ ([] : List Nat))) (da_cons (d_var (pv 1) (by decide : ¬ 1 ∈ ([] : List Nat))) (da_cons (d_var (pv 2) (by decide : ¬ 2 ∈ ([] : List Nat))) da_nil))))) (nomark _))))
def h_stored_at : Dt → Option Out := (sq (stIf (tB (b2 isN (vr 1) (cD .none)))
  (stRet (cD (.int 0)))
  stNx)
  (stRet (bA (gN 4 f_emptied) (aCat 2 2 (aCons (vr 0) (aCons (vr 2) aNil)) (aCons (bA (gN 2 f_end_of) (aCons (vr 0) (aCons (vr 1) aNil))) (aCons (vr 3) aNil))))))
def f_stored_at : List PyData → Option Rs := runP ["sky", "look", "amount", "time"] h_stored_at
theorem ok_stored_at {w : World} (y : Hy K mg base fd k) : FnOk Pg w K mg base (L2.CX Pg w) 3 (A_stored_at K) (fd 9) ["sky", "look", "amount", "time"] (spP k 4 f_stored_at) := by
  have nd := (sc_stored_at).nd
  refine okP (h := h_stored_at) [] y.F_stored_at sc_stored_at fun cdv A outer s H E F0 H0 hr => ?_
  exact (dss_cons (ds_if (dt_cmp op_isN o_isN (d_var (pv 1) (by decide : ¬ 1 ∈ ([] : List Nat))) d_non (nomark _))
    (dss_one (ds_ret d_int))
    dss_nil)
    (dss_one (ds_ret (d_callK (ok_emptied y) (hr.mono (by decide : 2 ≤ 2)) (by rfl) y.m_emptied y.F_emptied.kp (b_emptied y) (da_cons (d_var (pv 0) (by decide : ¬ 0 ∈ ([] : List Nat))) (da_cons (d_var (pv 2) (by decide : ¬ 2 ∈ ([] : List Nat))) da_nil)) (dk_cons (d_call (ok_end_of y) (hr.mono (by decide : 1 ≤ 2)) (by rfl) y.m_end_of y.F_end_of.kp (b_end_of y) (da_cons (d_var (pv 0) (by decide : ¬ 0 ∈ ([] : List Nat))) (da_cons (d_var (pv 1) (by decide : ¬ 1 ∈ ([] : List Nat))) da_nil))) (dk_cons (d_var (pv 3) (by decide : ¬ 3 ∈ ([] : List Nat))) dk_nil))))))
def h_level_behind : Dt → Option Out := (sq (stG (b2 ixD (b2 ixD (vr 0) (cD (.int 0))) (vr 3)) (gT 5 (gsCons (setD 4) (gsCons (setD 5) (gsCons (setD 6) (gsCons (setD 7) (gsCons (setD 8) gsNil)))))))
  (sq (stIf (tB (b2 gtI (b2 addI (bA (gN 4 f_stored_at) (aCons (vr 0) (aCons (vr 1) (aCons (vr 2) (aCons (vr 5) aNil))))) (vr 8)) (b2 ixD (vr 0) (cD (.int 3)))))
  (stRet (cD .none))
  stNx)
  (stRet (b2 addI (bA (gN 4 f_stored_at) (aCons (vr 0) (aCons (vr 1) (aCons (vr 2) (aCons (b2 addI (vr 5) (vr 6)) aNil))))) (vr 8)))))
def f_level_behind : List PyData → Option Rs := runP ["sky", "last", "amount", "look", "wish", "start", "length", "angle", "size"] h_level_behind
theorem ok_level_behind {w : World} (y : Hy K mg base fd k) : FnOk Pg w K mg base (L2.CX Pg w) 4 (A_level_behind K) (fd 10) ["sky", "last", "amount", "look"] (spP k 4 f_level_behind) := by
  have nd := (sc_level_behind).nd
  refine okP (h := h_level_behind) [] y.F_level_behind sc_level_behind fun cdv A outer s H E F0 H0 hr => ?_
  exact (dss_cons (ds_G (ps_asg (d_ix ix_seq o_ix (d_ix ix_seq o_ix (d_var (pv 0) (by decide : ¬ 0 ∈ ([] : List Nat))) d_int fun _ _ => rfl) (d_var (pv 3) (by decide : ¬ 3 ∈ ([] : List Nat))) fun _ _ => rfl) (dg_tup rfl (dgs_cons (dg_name (pg_name nd (i := 4) rfl (Or.inl rfl)) (by decide : ¬ 4 ∈ ([] : List Nat))) (dgs_cons (dg_name (pg_name nd (i := 5) rfl (Or.inl rfl)) (by decide : ¬ 5 ∈ ([] : List Nat))) (dgs_cons (dg_name (pg_name nd (i := 6) rfl (Or.inl rfl)) (by decide : ¬ 6 ∈ ([] : List Nat))) (dgs_cons (dg_name (pg_name nd (i := 7) rfl (Or.inl rfl)) (by decide : ¬ 7 ∈ ([] : List Nat))) (dgs_cons (dg_name (pg_name nd (i := 8) rfl (Or.inl rfl)) (by decide : ¬ 8 ∈ ([] : List Nat))) dgs_nil))))))) (by decide : ∀ j ∈ ([4, 5, 6, 7, 8] : List Nat), j ∉ ([] : List Nat)))
    (dss_cons (ds_if (dt_cmp op_gt o_gt (d_op op_add o_add (d_call (ok_stored_at y) (hr.mono (by decide : 3 ≤ 3)) (by rfl) y.m_stored_at y.F_stored_at.kp (b_stored_at y) (da_cons (d_var (pv 0) (by decide : ¬ 0 ∈ ([] : List Nat))) (da_cons (d_var (pv 1) (by decide : ¬ 1 ∈ ([] : List Nat))) (da_cons (d_var (pv 2) (by decide : ¬ 2 ∈ ([] : List Nat))) (da_cons (d_var (pv 5) (by decide : ¬ 5 ∈ ([] : List Nat))) da_nil))))) (d_var (pv 8) (by decide : ¬ 8 ∈ ([] : List Nat)))) (d_ix ix_seq o_ix (d_var (pv 0) (by decide : ¬ 0 ∈ ([] : List Nat))) d_int fun _ _ => rfl) (nomark _))
    (dss_one (ds_ret d_non))
    dss_nil)
    (dss_one (ds_ret (d_op op_add o_add (d_call (ok_stored_at y) (hr.mono (by decide : 3 ≤ 3)) (by rfl) y.m_stored_at y.F_stored_at.kp (b_stored_at y) (da_cons (d_var (pv 0) (by decide : ¬ 0 ∈ ([] : List Nat))) (da_cons (d_var (pv 1) (by decide : ¬ 1 ∈ ([] : List Nat))) (da_cons (d_var (pv 2) (by decide : ¬ 2 ∈ ([] : List Nat))) (da_cons (d_op op_add o_add (d_var (pv 5) (by decide : ¬ 5 ∈ ([] : List Nat))) (d_var (pv 6) (by decide : ¬ 6 ∈ ([] : List Nat)))) da_nil))))) (d_var (pv 8) (by decide : ¬ 8 ∈ ([] : List Nat))))))))
def lp_wrong_in_1 : Dt → Option Out := (sq (stIf (tAndD (tB (b2 isNotN (vr 2) (cD .none))) (tB (b2 leI (vr 6) (vr 2))))
  (stRet (bA (fun l => (szOk l).map .tuple) (aCons (cD (.str "order")) (aCons (vr 5) aNil))))
  stNx)
  (sq (stIf (tB (b2 inD (b2 ixD (b2 ixD (b2 ixD (vr 0) (cD (.int 0))) (vr 6)) (cD (.int 0))) (vr 4)))
  (stRet (bA (fun l => (szOk l).map .tuple) (aCons (cD (.str "wish")) (aCons (vr 5) aNil))))
  stNx)
  (sq (stIf (tAndD (tB (b2 isNotN (vr 2) (cD .none))) (tNotD (tB (bA (gN 3 f_follows) (aCons (vr 0) (aCons (vr 2) (aCons (vr 6) aNil)))))))
  (stRet (bA (fun l => (szOk l).map .tuple) (aCons (cD (.str "turning")) (aCons (vr 5) aNil))))
  stNx)
  (sq (stSet 3 (bA (gN 4 f_level_behind) (aCons (vr 0) (aCons (vr 2) (aCons (vr 3) (aCons (vr 6) aNil))))))
  (sq (stIf (tB (b2 isN (vr 3) (cD .none)))
  (stRet (bA (fun l => (szOk l).map .tuple) (aCons (cD (.str "room")) (aCons (vr 5) aNil))))
  stNx)
  (sq (stApp 4 (b2 ixD (b2 ixD (b2 ixD (vr 0) (cD (.int 0))) (vr 6)) (cD (.int 0))))
  (stSet 2 (vr 6))))))))
def h_wrong_in : Dt → Option Out := (sq (stSet 2 (cD .none))
  (sq (stSet 3 (cD (.int 0)))
  (sq (stSet 4 (asL (bA (fun l => (szOk l).map .list) aNil)))
  (sq (stFor (enumI (aCons (vr 1) aNil)) (gT 2 (gsCons (setD 5) (gsCons (setD 6) gsNil))) lp_wrong_in_1)
  (stRet (cD .none))))))
def f_wrong_in : List PyData → Option Rs := runP ["sky", "names", "last", "amount", "seen", "place", "look"] h_wrong_in
theorem ok_wrong_in {w : World} (y : Hy K mg base fd k) : FnOk Pg w K mg base (L2.CX Pg w) 5 (A_wrong_in K) (fd 11) ["sky", "names"] (spP k 2 f_wrong_in) := by
  have nd := (sc_wrong_in).nd
  refine okP (h := h_wrong_in) [4] y.F_wrong_in sc_wrong_in fun cdv A outer s H E F0 H0 hr => ?_
  exact (dss_cons (ds_set (ps_set nd (i := 2) rfl (Or.inl rfl) d_non) (by decide : ¬ 2 ∈ ([4] : List Nat)))
    (dss_cons (ds_set (ps_set nd (i := 3) rfl (Or.inl rfl) d_int) (by decide : ¬ 3 ∈ ([4] : List Nat)))
    (dss_cons (ds_setN (ps_set nd (i := 4) rfl (Or.inl rfl) (dn_lst da_nil)) (by decide : 4 ∈ ([4] : List Nat)) (.inl (by decide)))
    (dss_cons (ds_for (passes_of rfl) rfl (di_enum (by rfl) y.b_enumerate (da_cons (d_var (pv 1) (by decide : ¬ 1 ∈ ([4] : List Nat))) da_nil)) (dg_tup rfl (dgs_cons (dg_name (pg_name nd (i := 5) rfl (Or.inl rfl)) (by decide : ¬ 5 ∈ ([4] : List Nat))) (dgs_cons (dg_name (pg_name nd (i := 6) rfl (Or.inl rfl)) (by decide : ¬ 6 ∈ ([4] : List Nat))) dgs_nil)))
    (dss_cons (ds_if (PW.pt (dw_and (dt_cmp op_notN o_isNotN (d_var (pv 2) (by decide : ¬ 2 ∈ ([4] : List Nat))) d_non (nomark _)) (dw_and1 (dt_cmp op_le o_le (d_var (pv 6) (by decide : ¬ 6 ∈ ([4] : List Nat))) (d_var (pv 2) (by decide : ¬ 2 ∈ ([4] : List Nat))) (nomark _)))))
    (dss_one (ds_ret (d_tup (da_cons d_str (da_cons (d_var (pv 5) (by decide : ¬ 5 ∈ ([4] : List Nat))) da_nil)))))
    dss_nil)
    (dss_cons (ds_if (dt_frz (dt_cmp (op_inD (u65 hr)) o_inD (d_ix ix_seq o_ix (d_ix ix_seq o_ix (d_ix ix_seq o_ix (d_var (pv 0) (by decide : ¬ 0 ∈ ([] : List Nat))) d_int fun _ _ => rfl) (d_var (pv 6) (by decide : ¬ 6 ∈ ([] : List Nat))) fun _ _ => rfl) d_int fun _ _ => rfl) (d_var (pv 4) (by decide : ¬ 4 ∈ ([] : List Nat))) rfl))
    (dss_one (ds_ret (d_tup (da_cons d_str (da_cons (d_var (pv 5) (by decide : ¬ 5 ∈ ([4] : List Nat))) da_nil)))))
    dss_nil)
    (dss_cons (ds_if (PW.pt (dw_and (dt_cmp op_notN o_isNotN (d_var (pv 2) (by decide : ¬ 2 ∈ ([4] : List Nat))) d_non (nomark _)) (dw_and1 (dt_not (dt_val (d_call (ok_follows y) (hr.mono (by decide : 2 ≤ 4)) (by rfl) y.m_follows y.F_follows.kp (b_follows y) (da_cons (d_var (pv 0) (by decide : ¬ 0 ∈ ([4] : List Nat))) (da_cons (d_var (pv 2) (by decide : ¬ 2 ∈ ([4] : List Nat))) (da_cons (d_var (pv 6) (by decide : ¬ 6 ∈ ([4] : List Nat))) da_nil)))) (by intro _; rfl))))))
    (dss_one (ds_ret (d_tup (da_cons d_str (da_cons (d_var (pv 5) (by decide : ¬ 5 ∈ ([4] : List Nat))) da_nil)))))
    dss_nil)
    (dss_cons (ds_set (ps_set nd (i := 3) rfl (Or.inl rfl) (d_call (ok_level_behind y) (hr.mono (by decide : 4 ≤ 4)) (by rfl) y.m_level_behind y.F_level_behind.kp (b_level_behind y) (da_cons (d_var (pv 0) (by decide : ¬ 0 ∈ ([4] : List Nat))) (da_cons (d_var (pv 2) (by decide : ¬ 2 ∈ ([4] : List Nat))) (da_cons (d_var (pv 3) (by decide : ¬ 3 ∈ ([4] : List Nat))) (da_cons (d_var (pv 6) (by decide : ¬ 6 ∈ ([4] : List Nat))) da_nil)))))) (by decide : ¬ 3 ∈ ([4] : List Nat)))
    (dss_cons (ds_if (dt_cmp op_isN o_isN (d_var (pv 3) (by decide : ¬ 3 ∈ ([4] : List Nat))) d_non (nomark _))
    (dss_one (ds_ret (d_tup (da_cons d_str (da_cons (d_var (pv 5) (by decide : ¬ 5 ∈ ([4] : List Nat))) da_nil)))))
    dss_nil)
    (dss_cons (ds_app (ps_expr (pe_bm PySem.F.plainAttrs_list PySem.F.slot_list_append PySem.F.type_list_append mt_append (pv 4) (pa_cons (d_ix ix_seq o_ix (d_ix ix_seq o_ix (d_ix ix_seq o_ix (d_var (pv 0) (by decide : ¬ 0 ∈ ([4] : List Nat))) d_int fun _ _ => rfl) (d_var (pv 6) (by decide : ¬ 6 ∈ ([4] : List Nat))) fun _ _ => rfl) d_int fun _ _ => rfl) pa_nil))) (by decide : 4 ∈ ([4] : List Nat)))
    (dss_one (ds_set (ps_set nd (i := 2) rfl (Or.inl rfl) (d_var (pv 6) (by decide : ¬ 6 ∈ ([4] : List Nat)))) (by decide : ¬ 2 ∈ ([4] : List Nat)))))))))) (by decide : ∀ j ∈ ([5, 6] : List Nat), j ∉ ([4] : List Nat)))
    (dss_one (ds_ret d_non))))))
def h_is_plan : Dt → Option Out := (stRet (b2 isN (bA (gN 2 f_wrong_in) (aCons (vr 0) (aCons (vr 1) aNil))) (cD .none)))
def f_is_plan : List PyData → Option Rs := runP ["sky", "names"] h_is_plan
theorem ok_is_plan {w : World} (y : Hy K mg base fd k) : FnOk Pg w K mg base (L2.CX Pg w) 6 (A_is_plan K) (fd 12) ["sky", "names"] (spP k 2 f_is_plan) := by
  have nd := (sc_is_plan).nd
  refine okP (h := h_is_plan) [] y.F_is_plan sc_is_plan fun cdv A outer s H E F0 H0 hr => ?_
  exact (dss_one (ds_ret (d_cmp op_isN o_isN (d_call (ok_wrong_in y) (hr.mono (by decide : 5 ≤ 5)) (by rfl) y.m_wrong_in y.F_wrong_in.kp (b_wrong_in y) (da_cons (d_var (pv 0) (by decide : ¬ 0 ∈ ([] : List Nat))) (da_cons (d_var (pv 1) (by decide : ¬ 1 ∈ ([] : List Nat))) da_nil))) d_non (nomark _))))
def lp_worth_of_1 : Dt → Option Out := (stIf (tB (b2 notInD (b2 ixD (b2 ixD (b2 ixD (vr 0) (cD (.int 0))) (vr 3)) (cD (.int 0))) (vr 2)))
  (stApp 2 (b2 ixD (b2 ixD (b2 ixD (vr 0) (cD (.int 0))) (vr 3)) (cD (.int 0))))
  stNx)
def cp_worth_of_1 : Dt → Option PyData := (lcD [4] (listI (vr 2)) (setD 4) (fun _ => some true) (b2 ixD (b2 ixD (vr 0) (cD (.int 1))) (vr 4)))
def h_worth_of : Dt → Option Out := (sq (stSet 2 (asL (bA (fun l => (szOk l).map .list) aNil)))
  (sq (stFor (listI (vr 1)) (setD 3) lp_worth_of_1)
  (stRet (bA sumD (aCons (asL cp_worth_of_1) aNil)))))
def f_worth_of : List PyData → Option Rs := runP ["sky", "names", "wishes", "look", "wish"] h_worth_of
theorem ok_worth_of {w : World} (y : Hy K mg base fd k) : FnOk Pg w K mg base (L2.CX Pg w) 1 (A_worth_of K) (fd 13) ["sky", "names"] (spP k 2 f_worth_of) := by
  have nd := (sc_worth_of).nd
  refine okP (h := h_worth_of) [2] y.F_worth_of sc_worth_of fun cdv A outer s H E F0 H0 hr => ?_
  exact (dss_cons (ds_setN (ps_set nd (i := 2) rfl (Or.inl rfl) (dn_lst da_nil)) (by decide : 2 ∈ ([2] : List Nat)) (.inl (by decide)))
    (dss_cons (ds_for (passes_of rfl) rfl (di_list (d_var (pv 1) (by decide : ¬ 1 ∈ ([2] : List Nat)))) (dg_name (pg_name nd (i := 3) rfl (Or.inl rfl)) (by decide : ¬ 3 ∈ ([2] : List Nat)))
    (dss_one (ds_if (dt_frz (dt_cmp (op_notInD (u65 hr)) o_notInD (d_ix ix_seq o_ix (d_ix ix_seq o_ix (d_ix ix_seq o_ix (d_var (pv 0) (by decide : ¬ 0 ∈ ([] : List Nat))) d_int fun _ _ => rfl) (d_var (pv 3) (by decide : ¬ 3 ∈ ([] : List Nat))) fun _ _ => rfl) d_int fun _ _ => rfl) (d_var (pv 2) (by decide : ¬ 2 ∈ ([] : List Nat))) rfl))
    (dss_one (ds_app (ps_expr (pe_bm PySem.F.plainAttrs_list PySem.F.slot_list_append PySem.F.type_list_append mt_append (pv 2) (pa_cons (d_ix ix_seq o_ix (d_ix ix_seq o_ix (d_ix ix_seq o_ix (d_var (pv 0) (by decide : ¬ 0 ∈ ([2] : List Nat))) d_int fun _ _ => rfl) (d_var (pv 3) (by decide : ¬ 3 ∈ ([2] : List Nat))) fun _ _ => rfl) d_int fun _ _ => rfl) pa_nil))) (by decide : 2 ∈ ([2] : List Nat))))
    dss_nil)) (by decide : ∀ j ∈ ([3] : List Nat), j ∉ ([2] : List Nat)))
    (dss_one (ds_retZ rfl (d_callB (cr_sum rfl) o_sum (by rfl) y.b_sum (by rfl) (da_cons (d_ofN (dn_lc (own := [("wish", 4)]) rfl nd (di_weak (di_list (d_var (pv 2) (by decide : ¬ 2 ∈ ([] : List Nat))))) (blkOk_by (N := ["sky", "names", "wishes", "look", "wish"]) (sc := defScope st_worth_of) (by decide +kernel)) (fun _ _ _ _ _ => (dg_name (pg_name nd (i := 4) rfl (Or.inl rfl)) (by decide : ¬ 4 ∈ ([] : List Nat)))) (fun _ _ _ _ _ => dts_nil) (fun _ _ _ _ _ => (d_ix ix_seq o_ix (d_ix ix_seq o_ix (d_var (pv 0) (by decide : ¬ 0 ∈ ([] : List Nat))) d_int fun _ _ => rfl) (d_var (pv 4) (by decide : ¬ 4 ∈ ([] : List Nat))) fun _ _ => rfl)))) da_nil))))))
end
end Sk
set_option Elab.async false
set_option linter.all false
set_option maxRecDepth 100000
set_option maxHeartbeats 4000000
/-! Walks of the program's defs. Printed by walk.py. -/
namespace Sk
open PySem PySem.Spec PyProof.Rows L2 Dl PySem.SkyX
section
variable {K : PySem.W.Frag} {mg : Str → Option Value} {base : Heap} {fd : Nat → FuncData} {k : Cl}
def lp_plans_on_1 : Dt → Option Out := (stIf (tAndD (tB (b2 geI (b2 ixD (b2 ixD (b2 ixD (vr 0) (cD (.int 0))) (vr 7)) (cD (.int 1))) (vr 1))) (tB (bA (gN 2 f_is_plan) (aCons (vr 0) (aCons (b2 catL (vr 5) (asL (bA (fun l => (szOk l).map .list) (aCons (vr 7) aNil)))) aNil)))))
  (stApp 3 (b2 catL (vr 5) (asL (bA (fun l => (szOk l).map .list) (aCons (vr 7) aNil)))))
  stNx)
def lp_plans_on_2 : Dt → Option Out := (sq (stPar 5 6 (aCons (b2 ixD (asL (vr 3)) (vr 4)) (aCons (cD (.int 0)) aNil)))
  (sq (stAug 4 (fun i j => i + j) (cD (.int 1)))
  (sq (stIf (truL (vr 5))
  (stSet 6 (b2 addI (b2 ixD (vr 5) (b1 negI (cD (.int 1)))) (cD (.int 1))))
  stNx)
  (stFor (rng2 (aCons (vr 6) (aCons (bA lenD (aCons (b2 ixD (vr 0) (cD (.int 0))) aNil)) aNil))) (setD 7) lp_plans_on_1))))
def h_plans_on : Dt → Option Out := (sq (stParN 3 4 (bA (fun l => (szOk l).map .list) (aCons (asL (bA listOf (aCons (vr 2) aNil))) aNil)) (cD (.int 0)))
  (sq (stWhile 100000 (tB (b2 ltI (vr 4) (bA lenD (aCons (vr 3) aNil)))) lp_plans_on_2)
  (stRet (bA srtR (aCons (vr 3) aNil)))))
def f_plans_on : List PyData → Option Rs := runP ["sky", "now", "begun", "found", "at", "plan", "first", "look"] h_plans_on
theorem ok_plans_on {w : World} (y : Hy K mg base fd k) : FnOk Pg w K mg base (L2.CX Pg w) 7 (A_plans_on K) (fd 14) ["sky", "now", "begun"] (spP k 3 f_plans_on) := by
  have nd := (sc_plans_on).nd
  refine okP (h := h_plans_on) [3] y.F_plans_on sc_plans_on fun cdv A outer s H E F0 H0 hr => ?_
  exact (dss_cons (ds_parN (ps_par rfl nd (i := 3) (j := 4) rfl rfl (by decide) rfl rfl (pa_cons (dn_lst (da_cons (d_ofN (dn_list (by rfl) y.b_list (by rfl) (da_cons (d_var (pv 2) (by decide : ¬ 2 ∈ ([3] : List Nat))) da_nil))) da_nil)) (pa_cons d_int pa_nil)) (by kernel_rfl)) (by decide : 3 ∈ ([3] : List Nat)) (by decide : ¬ 4 ∈ ([3] : List Nat)) (.inl (by decide)))
    (dss_cons (ds_while (fu := 100000) (passes_of rfl) (dt_frz (dt_cmp op_lt o_lt (d_var (pv 4) (by decide : ¬ 4 ∈ ([] : List Nat))) (d_callB call_len_seq o_len (by rfl) y.b_len (by rfl) (da_cons (d_var (pv 3) (by decide : ¬ 3 ∈ ([] : List Nat))) da_nil)) (nomark _)))
    (dss_cons (ds_par (ps_par rfl nd (i := 5) (j := 6) rfl rfl (by decide) rfl rfl (da_cons (d_itemOwn (pv 3) (by decide : 3 ∈ ([3] : List Nat)) (d_var (pv 4) (by decide : ¬ 4 ∈ ([3] : List Nat))) fun _ _ => rfl) (da_cons d_int da_nil)) (by kernel_rfl)) (by decide : ¬ 5 ∈ ([3] : List Nat)) (by decide : ¬ 6 ∈ ([3] : List Nat)))
    (dss_cons (ds_aug (ps_aug nd (i := 4) rfl (Or.inl rfl) d_int ip_add) (by decide : ¬ 4 ∈ ([3] : List Nat)))
    (dss_cons (ds_if (dt_tru (d_var (pv 5) (by decide : ¬ 5 ∈ ([3] : List Nat))) (by intro _; rfl))
    (dss_one (ds_set (ps_set nd (i := 6) rfl (Or.inl rfl) (d_op op_add o_add (d_ix ix_seq o_ix (d_var (pv 5) (by decide : ¬ 5 ∈ ([3] : List Nat))) (d_un un_neg o_neg d_int) fun _ _ => rfl) d_int)) (by decide : ¬ 6 ∈ ([3] : List Nat))))
    dss_nil)
    (dss_one (ds_for (passes_of rfl) rfl (di_rng2 (by rfl) y.b_range (da_cons (d_var (pv 6) (by decide : ¬ 6 ∈ ([3] : List Nat))) (da_cons (d_callB call_len_seq o_len (by rfl) y.b_len (by rfl) (da_cons (d_ix ix_seq o_ix (d_var (pv 0) (by decide : ¬ 0 ∈ ([3] : List Nat))) d_int fun _ _ => rfl) da_nil)) da_nil))) (dg_name (pg_name nd (i := 7) rfl (Or.inl rfl)) (by decide : ¬ 7 ∈ ([3] : List Nat)))
    (dss_one (ds_if (PW.pt (dw_and (dt_cmp op_ge o_ge (d_ix ix_seq o_ix (d_ix ix_seq o_ix (d_ix ix_seq o_ix (d_var (pv 0) (by decide : ¬ 0 ∈ ([3] : List Nat))) d_int fun _ _ => rfl) (d_var (pv 7) (by decide : ¬ 7 ∈ ([3] : List Nat))) fun _ _ => rfl) d_int fun _ _ => rfl) (d_var (pv 1) (by decide : ¬ 1 ∈ ([3] : List Nat))) (nomark _)) (dw_and1 (dt_val (d_call (ok_is_plan y) (hr.mono (by decide : 6 ≤ 6)) (by rfl) y.m_is_plan y.F_is_plan.kp (b_is_plan y) (da_cons (d_var (pv 0) (by decide : ¬ 0 ∈ ([3] : List Nat))) (da_cons (d_op op_cat o_catL (d_var (pv 5) (by decide : ¬ 5 ∈ ([3] : List Nat))) (d_ofN (dn_lst (da_cons (d_var (pv 7) (by decide : ¬ 7 ∈ ([3] : List Nat))) da_nil)))) da_nil))) (by intro _; rfl)))))
    (dss_one (ds_app (ps_expr (pe_bm PySem.F.plainAttrs_list PySem.F.slot_list_append PySem.F.type_list_append mt_append (pv 3) (pa_cons (d_op op_cat o_catL (d_var (pv 5) (by decide : ¬ 5 ∈ ([3] : List Nat))) (d_ofN (dn_lst (da_cons (d_var (pv 7) (by decide : ¬ 7 ∈ ([3] : List Nat))) da_nil)))) pa_nil))) (by decide : 3 ∈ ([3] : List Nat))))
    dss_nil)) (by decide : ∀ j ∈ ([7] : List Nat), j ∉ ([3] : List Nat))))))))
    (dss_one (ds_retZ rfl (d_callB (cr_srtR hr.units) o_srtR (by rfl) y.b_sorted (by rfl) (da_cons (d_var (pv 3) (by decide : ¬ 3 ∈ ([] : List Nat))) da_nil))))))
def cp_keeps_1 : Dt → Option PyData := (lcD [4] (listI (vr 1)) (setD 4) (fun _ => some true) (b2 ixD (b2 ixD (b2 ixD (vr 0) (cD (.int 0))) (vr 4)) (cD (.int 0))))
def cp_keeps_2 : Dt → Option PyData := (lcD [5] (listI (vr 2)) (setD 5) (fun _ => some true) (b2 inD (vr 5) (vr 3)))
def h_keeps : Dt → Option Out := (sq (stSet 3 (asL cp_keeps_1))
  (stRet (bA allD (aCons (asL cp_keeps_2) aNil))))
def f_keeps : List PyData → Option Rs := runP ["sky", "plan", "promises", "wishes", "look", "wish"] h_keeps
theorem ok_keeps {w : World} (y : Hy K mg base fd k) : FnOk Pg w K mg base (L2.CX Pg w) 1 (A_keeps K) (fd 15) ["sky", "plan", "promises"] (spP k 3 f_keeps) := by
  have nd := (sc_keeps).nd
  refine okP (h := h_keeps) [] y.F_keeps sc_keeps fun cdv A outer s H E F0 H0 hr => ?_
  exact (dss_cons (ds_set (ps_set nd (i := 3) rfl (Or.inr rfl) (d_ofN (dn_lc (own := [("look", 4)]) rfl nd (di_weak (di_list (d_var (pv 1) (by decide : ¬ 1 ∈ ([] : List Nat))))) (blkOk_by (N := ["sky", "plan", "promises", "wishes", "look", "wish"]) (sc := defScope st_keeps) (by decide +kernel)) (fun _ _ _ _ _ => (dg_name (pg_name nd (i := 4) rfl (Or.inl rfl)) (by decide : ¬ 4 ∈ ([] : List Nat)))) (fun _ _ _ _ _ => dts_nil) (fun _ _ _ _ _ => (d_ix ix_seq o_ix (d_ix ix_seq o_ix (d_ix ix_seq o_ix (d_var (pv 0) (by decide : ¬ 0 ∈ ([] : List Nat))) d_int fun _ _ => rfl) (d_var (pv 4) (by decide : ¬ 4 ∈ ([] : List Nat))) fun _ _ => rfl) d_int fun _ _ => rfl))))) (by decide : ¬ 3 ∈ ([] : List Nat)))
    (dss_one (ds_ret (d_callB (cr_all rfl) o_all (by rfl) y.b_all (by rfl) (da_cons (d_ofN (dn_lc (own := [("wish", 5)]) rfl nd (di_weak (di_list (d_var (pv 2) (by decide : ¬ 2 ∈ ([] : List Nat))))) (blkOk_by (N := ["sky", "plan", "promises", "wishes", "look", "wish"]) (sc := defScope st_keeps) (by decide +kernel)) (fun _ _ _ _ _ => (dg_name (pg_name nd (i := 5) rfl (Or.inl rfl)) (by decide : ¬ 5 ∈ ([] : List Nat)))) (fun _ _ _ _ _ => dts_nil) (fun _ _ _ _ _ => (d_cmp (op_inD (u65 hr)) o_inD (d_var (pv 5) (by decide : ¬ 5 ∈ ([] : List Nat))) (d_var (pv 3) (by decide : ¬ 3 ∈ ([] : List Nat))) rfl)))) da_nil)))))
def cp_keeping_1 : Dt → Option PyData := (lcD [4] (listI (bA (gN 3 f_plans_on) (aCat 1 2 (aCons (vr 0) aNil) (aCons (vr 2) (aCons (vr 3) aNil))))) (setD 4) (tB (bA (gN 3 f_keeps) (aCons (vr 0) (aCons (vr 4) (aCons (vr 1) aNil))))) (vr 4))
def h_keeping : Dt → Option Out := (stRet (asL cp_keeping_1))
def f_keeping : List PyData → Option Rs := runP ["sky", "promises", "now", "begun", "plan"] h_keeping
theorem ok_keeping {w : World} (y : Hy K mg base fd k) : FnOk Pg w K mg base (L2.CX Pg w) 8 (A_keeping K) (fd 16) ["sky", "promises", "now", "begun"] (spP k 4 f_keeping) := by
  have nd := (sc_keeping).nd
  refine okP (h := h_keeping) [] y.F_keeping sc_keeping fun cdv A outer s H E F0 H0 hr => ?_
  exact (dss_one (ds_ret (d_ofN (dn_lc (own := [("plan", 4)]) rfl nd (di_weak (di_list (d_callK (ok_plans_on y) (hr.mono (by decide : 7 ≤ 7)) (by rfl) y.m_plans_on y.F_plans_on.kp (b_plans_on y) (da_cons (d_var (pv 0) (by decide : ¬ 0 ∈ ([] : List Nat))) da_nil) (dk_cons (d_var (pv 2) (by decide : ¬ 2 ∈ ([] : List Nat))) (dk_cons (d_var (pv 3) (by decide : ¬ 3 ∈ ([] : List Nat))) dk_nil))))) (blkOk_by (N := ["sky", "promises", "now", "begun", "plan"]) (sc := defScope st_keeping) (by decide +kernel)) (fun _ _ _ _ _ => (dg_name (pg_name nd (i := 4) rfl (Or.inl rfl)) (by decide : ¬ 4 ∈ ([] : List Nat)))) (fun _ _ _ _ _ => dts_one (dt_val (d_call (ok_keeps y) (hr.mono (by decide : 1 ≤ 7)) (by rfl) y.m_keeps y.F_keeps.kp (b_keeps y) (da_cons (d_var (pv 0) (by decide : ¬ 0 ∈ ([] : List Nat))) (da_cons (d_var (pv 4) (by decide : ¬ 4 ∈ ([] : List Nat))) (da_cons (d_var (pv 1) (by decide : ¬ 1 ∈ ([] : List Nat))) da_nil)))) (by intro _; rfl))) (fun _ _ _ _ _ => (d_var (pv 4) (by decide : ¬ 4 ∈ ([] : List Nat))))))))
def h_can_keep : Dt → Option Out := (stRet (b2 gtI (bA lenD (aCons (bA (gN 4 f_keeping) (aCons (vr 0) (aCons (vr 1) (aCons (vr 2) (aCons (vr 3) aNil))))) aNil)) (cD (.int 0))))
def f_can_keep : List PyData → Option Rs := runP ["sky", "promises", "now", "begun"] h_can_keep
theorem ok_can_keep {w : World} (y : Hy K mg base fd k) : FnOk Pg w K mg base (L2.CX Pg w) 9 (A_can_keep K) (fd 17) ["sky", "promises", "now", "begun"] (spP k 4 f_can_keep) := by
  have nd := (sc_can_keep).nd
  refine okP (h := h_can_keep) [] y.F_can_keep sc_can_keep fun cdv A outer s H E F0 H0 hr => ?_
  exact (dss_one (ds_ret (d_cmp op_gt o_gt (d_callB call_len_seq o_len (by rfl) y.b_len (by rfl) (da_cons (d_call (ok_keeping y) (hr.mono (by decide : 8 ≤ 8)) (by rfl) y.m_keeping y.F_keeping.kp (b_keeping y) (da_cons (d_var (pv 0) (by decide : ¬ 0 ∈ ([] : List Nat))) (da_cons (d_var (pv 1) (by decide : ¬ 1 ∈ ([] : List Nat))) (da_cons (d_var (pv 2) (by decide : ¬ 2 ∈ ([] : List Nat))) (da_cons (d_var (pv 3) (by decide : ¬ 3 ∈ ([] : List Nat))) da_nil))))) da_nil)) d_int (nomark _))))
def lp_best_keeping_1 : Dt → Option Out := (sq (stSet 6 (bA (gN 2 f_worth_of) (aCons (vr 0) (aCons (vr 5) aNil))))
  (stIf (tOrD (tB (b2 isN (vr 4) (cD .none))) (tB (b2 gtI (vr 6) (b2 ixD (vr 4) (cD (.int 0))))))
  (stSet 4 (bA (fun l => (szOk l).map .tuple) (aCons (vr 6) (aCons (vr 5) aNil))))
  stNx))
def h_best_keeping : Dt → Option Out := (sq (stSet 4 (cD .none))
  (sq (stFor (listI (bA (gN 4 f_keeping) (aCons (vr 0) (aCons (vr 1) (aCons (vr 2) (aCons (vr 3) aNil)))))) (setD 5) lp_best_keeping_1)
  (stRet (vr 4))))
def f_best_keeping : List PyData → Option Rs := runP ["sky", "promises", "now", "begun", "best", "plan", "worth"] h_best_keeping
theorem ok_best_keeping {w : World} (y : Hy K mg base fd k) : FnOk Pg w K mg base (L2.CX Pg w) 9 (A_best_keeping K) (fd 18) ["sky", "promises", "now", "begun"] (spP k 4 f_best_keeping) := by
  have nd := (sc_best_keeping).nd
  refine okP (h := h_best_keeping) [] y.F_best_keeping sc_best_keeping fun cdv A outer s H E F0 H0 hr => ?_
  exact (dss_cons (ds_set (ps_set nd (i := 4) rfl (Or.inl rfl) d_non) (by decide : ¬ 4 ∈ ([] : List Nat)))
    (dss_cons (ds_for (passes_of rfl) rfl (di_list (d_call (ok_keeping y) (hr.mono (by decide : 8 ≤ 8)) (by rfl) y.m_keeping y.F_keeping.kp (b_keeping y) (da_cons (d_var (pv 0) (by decide : ¬ 0 ∈ ([] : List Nat))) (da_cons (d_var (pv 1) (by decide : ¬ 1 ∈ ([] : List Nat))) (da_cons (d_var (pv 2) (by decide : ¬ 2 ∈ ([] : List Nat))) (da_cons (d_var (pv 3) (by decide : ¬ 3 ∈ ([] : List Nat))) da_nil)))))) (dg_name (pg_name nd (i := 5) rfl (Or.inl rfl)) (by decide : ¬ 5 ∈ ([] : List Nat)))
    (dss_cons (ds_set (ps_set nd (i := 6) rfl (Or.inl rfl) (d_call (ok_worth_of y) (hr.mono (by decide : 1 ≤ 8)) (by rfl) y.m_worth_of y.F_worth_of.kp (b_worth_of y) (da_cons (d_var (pv 0) (by decide : ¬ 0 ∈ ([] : List Nat))) (da_cons (d_var (pv 5) (by decide : ¬ 5 ∈ ([] : List Nat))) da_nil)))) (by decide : ¬ 6 ∈ ([] : List Nat)))
    (dss_one (ds_if (PW.pt (dw_or (dt_cmp op_isN o_isN (d_var (pv 4) (by decide : ¬ 4 ∈ ([] : List Nat))) d_non (nomark _)) (dw_or1 (dt_cmp op_gt o_gt (d_var (pv 6) (by decide : ¬ 6 ∈ ([] : List Nat))) (d_ix ix_seq o_ix (d_var (pv 4) (by decide : ¬ 4 ∈ ([] : List Nat))) d_int fun _ _ => rfl) (nomark _)))))
    (dss_one (ds_set (ps_set nd (i := 4) rfl (Or.inl rfl) (d_tup (da_cons (d_var (pv 6) (by decide : ¬ 6 ∈ ([] : List Nat))) (da_cons (d_var (pv 5) (by decide : ¬ 5 ∈ ([] : List Nat))) da_nil)))) (by decide : ¬ 4 ∈ ([] : List Nat))))
    dss_nil))) (by decide : ∀ j ∈ ([5] : List Nat), j ∉ ([] : List Nat)))
    (dss_one (ds_ret (d_var (pv 4) (by decide : ¬ 4 ∈ ([] : List Nat)))))))
def cp_parts_of_1 : Dt → Option PyData := (lcD [3] (listI (vr 1)) (setD 3) (fun _ => some true) (b2 catL (vr 3) (asL (bA (fun l => (szOk l).map .list) (aCons (vr 2) aNil)))))
def lp_parts_of_1 : Dt → Option Out := (stSet 1 (b2 catL (vr 1) (asL cp_parts_of_1)))
def h_parts_of : Dt → Option Out := (sq (stSet 1 (asL (bA (fun l => (szOk l).map .list) (aCons (asL (bA (fun l => (szOk l).map .list) aNil)) aNil))))
  (sq (stFor (listI (vr 0)) (setD 2) lp_parts_of_1)
  (stRet (b1 (srtK encS keyP rowsS) (vr 1)))))
def f_parts_of : List PyData → Option Rs := runP ["promises", "found", "wish", "part"] h_parts_of
theorem ok_parts_of {w : World} (y : Hy K mg base fd k) : FnOk Pg w K mg base (L2.CX Pg w) 1 (A_parts_of K) (fd 19) ["promises"] (spP k 1 f_parts_of) := by
  have nd := (sc_parts_of).nd
  refine okPc (h := h_parts_of) (p := ("parts_of", none)) [] y.F_parts_of rfl sc_parts_of fun cdv A outer s H E F0 H0 hr hcd => ?_
  exact (dss_cons (ds_set (ps_set nd (i := 1) rfl (Or.inl rfl) (d_ofN (dn_lst (da_cons (d_ofN (dn_lst da_nil)) da_nil)))) (by decide : ¬ 1 ∈ ([] : List Nat)))
    (dss_cons (ds_for (passes_of rfl) rfl (di_list (d_var (pv 0) (by decide : ¬ 0 ∈ ([] : List Nat)))) (dg_name (pg_name nd (i := 2) rfl (Or.inr rfl)) (by decide : ¬ 2 ∈ ([] : List Nat)))
    (dss_one (ds_set (ps_set nd (i := 1) rfl (Or.inl rfl) (d_op op_cat o_catL (d_var (pv 1) (by decide : ¬ 1 ∈ ([] : List Nat))) (d_ofN (dn_lc (own := [("part", 3)]) rfl nd (di_weak (di_list (d_var (pv 1) (by decide : ¬ 1 ∈ ([] : List Nat))))) (blkOk_by (N := ["promises", "found", "wish", "part"]) (sc := defScope st_parts_of) (by decide +kernel)) (fun _ _ _ _ _ => (dg_name (pg_name nd (i := 3) rfl (Or.inl rfl)) (by decide : ¬ 3 ∈ ([] : List Nat)))) (fun _ _ _ _ _ => dts_nil) (fun _ _ _ _ _ => (d_op op_cat o_catL (d_var (pv 3) (by decide : ¬ 3 ∈ ([] : List Nat))) (d_ofN (dn_lst (da_cons (d_var (pv 2) (by decide : ¬ 2 ∈ ([] : List Nat))) da_nil))))))))) (by decide : ¬ 1 ∈ ([] : List Nat)))) (by decide : ∀ j ∈ ([2] : List Nat), j ∉ ([] : List Nat)))
    (dss_one (ds_ret (d_sortKey (R := RL) rowsS_eq (fun d => by show plainAll _ = true; exact plain_ints d.1) likeP canP deepP rl_of (keyrun_len y.b_len rfl (by decide) rfl rfl rfl (by decide) (by decide)) hr (by rfl) y.b_sorted (by rfl) (d_var (pv 1) (by decide : ¬ 1 ∈ ([] : List Nat))) y.tb1 hcd (by rw [y.kT]; exact List.mem_cons_self) (one1 y) rfl (by decide +kernel) rfl rfl rfl rfl (by decide +kernel) rfl (fun _ _ _ _ _ _ => by kernel_rfl))))))
def cp_clash_of_1 : Dt → Option PyData := (lcD [7] (listI (vr 5)) (setD 7) (fun _ => some true) (bA (gN 3 f_keeps) (aCons (vr 0) (aCons (vr 7) (aCons (b2 catL (vr 6) (asL (bA (fun l => (szOk l).map .list) (aCons (vr 2) aNil)))) aNil)))))
def lp_clash_of_1 : Dt → Option Out := (stIf (tNotD (tB (bA anyD (aCons (asL cp_clash_of_1) aNil))))
  (stRet (vr 6))
  stNx)
def h_clash_of : Dt → Option Out := (sq (stSet 5 (bA (gN 3 f_plans_on) (aCat 1 2 (aCons (vr 0) aNil) (aCons (vr 3) (aCons (vr 4) aNil)))))
  (sq (stFor (listI (bA (gN 1 f_parts_of) (aCons (vr 1) aNil))) (setD 6) lp_clash_of_1)
  (stRet (cD .none))))
def f_clash_of : List PyData → Option Rs := runP ["sky", "promises", "wish", "now", "begun", "plans", "part", "plan"] h_clash_of
theorem ok_clash_of {w : World} (y : Hy K mg base fd k) : FnOk Pg w K mg base (L2.CX Pg w) 8 (A_clash_of K) (fd 20) ["sky", "promises", "wish", "now", "begun"] (spP k 5 f_clash_of) := by
  have nd := (sc_clash_of).nd
  refine okP (h := h_clash_of) [] y.F_clash_of sc_clash_of fun cdv A outer s H E F0 H0 hr => ?_
  exact (dss_cons (ds_set (ps_set nd (i := 5) rfl (Or.inl rfl) (d_callK (ok_plans_on y) (hr.mono (by decide : 7 ≤ 7)) (by rfl) y.m_plans_on y.F_plans_on.kp (b_plans_on y) (da_cons (d_var (pv 0) (by decide : ¬ 0 ∈ ([] : List Nat))) da_nil) (dk_cons (d_var (pv 3) (by decide : ¬ 3 ∈ ([] : List Nat))) (dk_cons (d_var (pv 4) (by decide : ¬ 4 ∈ ([] : List Nat))) dk_nil)))) (by decide : ¬ 5 ∈ ([] : List Nat)))
    (dss_cons (ds_for (passes_of rfl) rfl (di_list (d_call (ok_parts_of y) (hr.mono (by decide : 1 ≤ 7)) (by rfl) y.m_parts_of y.F_parts_of.kp (b_parts_of y) (da_cons (d_var (pv 1) (by decide : ¬ 1 ∈ ([] : List Nat))) da_nil))) (dg_name (pg_name nd (i := 6) rfl (Or.inr rfl)) (by decide : ¬ 6 ∈ ([] : List Nat)))
    (dss_one (ds_if (dt_not (dt_val (d_callB (cr_any rfl) o_any (by rfl) y.b_any (by rfl) (da_cons (d_ofN (dn_lc (own := [("plan", 7)]) rfl nd (di_weak (di_list (d_var (pv 5) (by decide : ¬ 5 ∈ ([] : List Nat))))) (blkOk_by (N := ["sky", "promises", "wish", "now", "begun", "plans", "part", "plan"]) (sc := defScope st_clash_of) (by decide +kernel)) (fun _ _ _ _ _ => (dg_name (pg_name nd (i := 7) rfl (Or.inl rfl)) (by decide : ¬ 7 ∈ ([] : List Nat)))) (fun _ _ _ _ _ => dts_nil) (fun _ _ _ _ _ => (d_call (ok_keeps y) (hr.mono (by decide : 1 ≤ 7)) (by rfl) y.m_keeps y.F_keeps.kp (b_keeps y) (da_cons (d_var (pv 0) (by decide : ¬ 0 ∈ ([] : List Nat))) (da_cons (d_var (pv 7) (by decide : ¬ 7 ∈ ([] : List Nat))) (da_cons (d_op op_cat o_catL (d_var (pv 6) (by decide : ¬ 6 ∈ ([] : List Nat))) (d_ofN (dn_lst (da_cons (d_var (pv 2) (by decide : ¬ 2 ∈ ([] : List Nat))) da_nil)))) da_nil))))))) da_nil)) (by intro _; rfl)))
    (dss_one (ds_ret (d_var (pv 6) (by decide : ¬ 6 ∈ ([] : List Nat)))))
    dss_nil)) (by decide : ∀ j ∈ ([6] : List Nat), j ∉ ([] : List Nat)))
    (dss_one (ds_ret d_non))))
def cp_with_late_1 : Dt → Option PyData := (lcD [5] (listI (vr 2)) (setD 5) (fun _ => some true) (b2 ltI (b2 ixD (vr 5) (cD (.int 0))) (vr 3)))
def cp_with_late_2 : Dt → Option PyData := (lcD [5] (listI (vr 2)) (setD 5) (fun _ => some true) (b2 catT (bA (fun l => (szOk l).map .tuple) (aCons (vr 4) aNil)) (bA toTup (aCons (vr 5) aNil))))
def h_with_late : Dt → Option Out := (sq (stSet 4 (bA lenD (aCons (b2 ixD (vr 0) (cD (.int 1))) aNil)))
  (sq (stIf (tB (bA anyD (aCons (asL cp_with_late_1) aNil)))
  (stRaise 3 aNil)
  stNx)
  (sq (stSet 6 (b2 catL (asL (bA listOf (aCons (b2 ixD (vr 0) (cD (.int 0))) aNil))) (asL cp_with_late_2)))
  (sq (stSet 7 (bA (fun l => (szOk l).map .tuple) (aCons (b1 (srtK encT (fun d : T2 => .int d.2.1) tups2) (vr 6)) (aCons (b2 catL (asL (bA listOf (aCons (b2 ixD (vr 0) (cD (.int 1))) aNil))) (asL (bA (fun l => (szOk l).map .list) (aCons (vr 1) aNil)))) (aCons (asL (bA listOf (aCons (b2 ixD (vr 0) (cD (.int 2))) aNil))) (aCons (b2 ixD (vr 0) (cD (.int 3))) (aCons (b2 ixD (vr 0) (cD (.int 4))) aNil)))))))
  (sq (stE (eCall 1 f_check_sky (aCons (vr 7) aNil)))
  (stRet (vr 7)))))))
def f_with_late : List PyData → Option Rs := runP ["sky", "worth", "looks", "now", "wish", "look", "merged", "found"] h_with_late
theorem ok_with_late {w : World} (y : Hy K mg base fd k) : FnOk Pg w K mg base (L2.CX Pg w) 4 (A_with_late K) (fd 21) ["sky", "worth", "looks", "now"] (spP k 4 f_with_late) := by
  have nd := (sc_with_late).nd
  refine okPc (h := h_with_late) (p := ("with_late", none)) [] y.F_with_late rfl sc_with_late fun cdv A outer s H E F0 H0 hr hcd => ?_
  exact (dss_cons (ds_set (ps_set nd (i := 4) rfl (Or.inr rfl) (d_callB call_len_seq o_len (by rfl) y.b_len (by rfl) (da_cons (d_ix ix_seq o_ix (d_var (pv 0) (by decide : ¬ 0 ∈ ([] : List Nat))) d_int fun _ _ => rfl) da_nil))) (by decide : ¬ 4 ∈ ([] : List Nat)))
    (dss_cons (ds_if (dt_val (d_callB (cr_any rfl) o_any (by rfl) y.b_any (by rfl) (da_cons (d_ofN (dn_lc (own := [("look", 5)]) rfl nd (di_weak (di_list (d_var (pv 2) (by decide : ¬ 2 ∈ ([] : List Nat))))) (blkOk_by (N := ["sky", "worth", "looks", "now", "wish", "look", "merged", "found"]) (sc := defScope st_with_late) (by decide +kernel)) (fun _ _ _ _ _ => (dg_name (pg_name nd (i := 5) rfl (Or.inl rfl)) (by decide : ¬ 5 ∈ ([] : List Nat)))) (fun _ _ _ _ _ => dts_nil) (fun _ _ _ _ _ => (d_cmp op_lt o_lt (d_ix ix_seq o_ix (d_var (pv 5) (by decide : ¬ 5 ∈ ([] : List Nat))) d_int fun _ _ => rfl) (d_var (pv 3) (by decide : ¬ 3 ∈ ([] : List Nat))) (nomark _))))) da_nil)) (by intro _; rfl))
    (dss_one (ds_raise rfl (takes_of rfl rfl rfl rfl) (mk0 rfl y.E_BadTime S_BadTime y.m_super (hr.mono (by decide : 1 ≤ 3)) (by rfl) y.m_BadTime)))
    dss_nil)
    (dss_cons (ds_set (ps_set nd (i := 6) rfl (Or.inl rfl) (d_op op_cat o_catL (d_ofN (dn_list (by rfl) y.b_list (by rfl) (da_cons (d_ix ix_seq o_ix (d_var (pv 0) (by decide : ¬ 0 ∈ ([] : List Nat))) d_int fun _ _ => rfl) da_nil))) (d_ofN (dn_lc (own := [("look", 5)]) rfl nd (di_weak (di_list (d_var (pv 2) (by decide : ¬ 2 ∈ ([] : List Nat))))) (blkOk_by (N := ["sky", "worth", "looks", "now", "wish", "look", "merged", "found"]) (sc := defScope st_with_late) (by decide +kernel)) (fun _ _ _ _ _ => (dg_name (pg_name nd (i := 5) rfl (Or.inl rfl)) (by decide : ¬ 5 ∈ ([] : List Nat)))) (fun _ _ _ _ _ => dts_nil) (fun _ _ _ _ _ => (d_op op_catA o_catT (d_tup (da_cons (d_var (pv 4) (by decide : ¬ 4 ∈ ([] : List Nat))) da_nil)) (d_callTy call_tuple_of o_toTup (by rfl) y.b_tuple (by rfl) (da_cons (d_var (pv 5) (by decide : ¬ 5 ∈ ([] : List Nat))) da_nil)))))))) (by decide : ¬ 6 ∈ ([] : List Nat)))
    (dss_cons (ds_set (ps_set nd (i := 7) rfl (Or.inl rfl) (d_tup (da_cons (d_sortKey (R := RT) tups2_eq (fun d => by show (true && (true && plainAll (d.2.2.map .int))) = true; rw [plain_ints]; rfl) (fun _ _ => rfl) (fun bs => PySem.W.Sortable.others fun b => ⟨(fun z => nomatch z), fun xs z => nomatch z⟩) (fun d => by show PyData.depth (.int d.2.1) ≤ 2; rw [PyData.depth]; decide) rt_of (keyrun_ix rfl rfl (by decide)) hr (by rfl) y.b_sorted (by rfl) (d_var (pv 6) (by decide : ¬ 6 ∈ ([] : List Nat))) y.tb2 hcd (by rw [y.kT]; exact List.mem_cons_of_mem _ List.mem_cons_self) (one2 y) rfl (by decide +kernel) rfl rfl rfl rfl (by decide +kernel) rfl (fun _ _ _ _ _ _ => by kernel_rfl)) (da_cons (d_op op_cat o_catL (d_ofN (dn_list (by rfl) y.b_list (by rfl) (da_cons (d_ix ix_seq o_ix (d_var (pv 0) (by decide : ¬ 0 ∈ ([] : List Nat))) d_int fun _ _ => rfl) da_nil))) (d_ofN (dn_lst (da_cons (d_var (pv 1) (by decide : ¬ 1 ∈ ([] : List Nat))) da_nil)))) (da_cons (d_ofN (dn_list (by rfl) y.b_list (by rfl) (da_cons (d_ix ix_seq o_ix (d_var (pv 0) (by decide : ¬ 0 ∈ ([] : List Nat))) d_int fun _ _ => rfl) da_nil))) (da_cons (d_ix ix_seq o_ix (d_var (pv 0) (by decide : ¬ 0 ∈ ([] : List Nat))) d_int fun _ _ => rfl) (da_cons (d_ix ix_seq o_ix (d_var (pv 0) (by decide : ¬ 0 ∈ ([] : List Nat))) d_int fun _ _ => rfl) da_nil))))))) (by decide : ¬ 7 ∈ ([] : List Nat)))
    (dss_cons (ds_exprE (e_call (ok_check_sky y) (takes_of rfl rfl rfl rfl) (hr.mono (by decide : 3 ≤ 3)) (by rfl) y.m_check_sky y.F_check_sky.kp (b_check_sky y) (da_cons (d_var (pv 7) (by decide : ¬ 7 ∈ ([] : List Nat))) da_nil)))
    (dss_one (ds_ret (d_var (pv 7) (by decide : ¬ 7 ∈ ([] : List Nat))))))))))
def h_copied : Dt → Option Out := (sq (stG (vr 0) (gT 5 (gsCons (setD 1) (gsCons (setD 2) (gsCons (setD 3) (gsCons (setD 4) (gsCons (setD 5) gsNil)))))))
  (stRet (bA (fun l => (szOk l).map .tuple) (aCons (asL (starD (vr 1))) (aCons (asL (starD (vr 2))) (aCons (asL (starD (vr 3))) (aCons (vr 4) (aCons (vr 5) aNil))))))))
def f_copied : List PyData → Option Rs := runP ["sky", "looks", "worths", "ears", "capacity", "turn"] h_copied
theorem ok_copied {w : World} (y : Hy K mg base fd k) : FnOk Pg w K mg base (L2.CX Pg w) 1 (A_copied K) (fd 22) ["sky"] (spP k 1 f_copied) := by
  have nd := (sc_copied).nd
  refine okP (h := h_copied) [] y.F_copied sc_copied fun cdv A outer s H E F0 H0 hr => ?_
  exact (dss_cons (ds_G (ps_asg (d_var (pv 0) (by decide : ¬ 0 ∈ ([] : List Nat))) (dg_tup rfl (dgs_cons (dg_name (pg_name nd (i := 1) rfl (Or.inl rfl)) (by decide : ¬ 1 ∈ ([] : List Nat))) (dgs_cons (dg_name (pg_name nd (i := 2) rfl (Or.inl rfl)) (by decide : ¬ 2 ∈ ([] : List Nat))) (dgs_cons (dg_name (pg_name nd (i := 3) rfl (Or.inl rfl)) (by decide : ¬ 3 ∈ ([] : List Nat))) (dgs_cons (dg_name (pg_name nd (i := 4) rfl (Or.inl rfl)) (by decide : ¬ 4 ∈ ([] : List Nat))) (dgs_cons (dg_name (pg_name nd (i := 5) rfl (Or.inl rfl)) (by decide : ¬ 5 ∈ ([] : List Nat))) dgs_nil))))))) (by decide : ∀ j ∈ ([1, 2, 3, 4, 5] : List Nat), j ∉ ([] : List Nat)))
    (dss_one (ds_ret (d_tup (da_cons (d_ofN (dn_star (d_var (pv 1) (by decide : ¬ 1 ∈ ([] : List Nat))))) (da_cons (d_ofN (dn_star (d_var (pv 2) (by decide : ¬ 2 ∈ ([] : List Nat))))) (da_cons (d_ofN (dn_star (d_var (pv 3) (by decide : ¬ 3 ∈ ([] : List Nat))))) (da_cons (d_var (pv 4) (by decide : ¬ 4 ∈ ([] : List Nat))) (da_cons (d_var (pv 5) (by decide : ¬ 5 ∈ ([] : List Nat))) da_nil)))))))))
end
end Sk
set_option Elab.async false
set_option linter.all false
set_option maxRecDepth 100000
set_option maxHeartbeats 4000000
/-! Walks of the program's defs. Printed by walk.py. -/
namespace Sk
open PySem PySem.Spec PyProof.Rows L2 Dl PySem.SkyX
section
variable {K : PySem.W.Frag} {mg : Str → Option Value} {base : Heap} {fd : Nat → FuncData} {k : Cl}
def h_State___init__ : Dt → Option Out := (sq (stFld 0 "sky" (vr 1))
  (sq (stFld 0 "time" (vr 2))
  (sq (stFld 0 "begun" (vr 3))
  (sq (stFld 0 "promises" (vr 4))
  (stFld2 0 "worth" "plan" (bA (gN 4 (swP f_best_keeping)) (aCat 2 2 (aCons (vr 1) (aCons (vr 4) aNil)) (aCons (vr 2) (aCons (vr 3) aNil)))))))))
def f_State___init__ : List (PyData × PyData) → List PyData → Option Rm := runM ["self", "sky", "now", "begun", "promises"] h_State___init__
theorem ok_State___init__ {w : World} (y : Hy K mg base fd k) : FnOk Pg w K mg base (L2.CX Pg w) 10 (A_State___init__ K) (fd 23) ["self", "sky", "now", "begun", "promises"] (spM k.sw 5 f_State___init__) := by
  have nd := (sc_State___init__).nd
  refine okM (h := h_State___init__) [0] y.F_State___init__ sc_State___init__ fun cdv A outer s H E p F0 H0 hr => ?_
  exact (dss_cons (ds_fld (pv 0) (d_var (pv 1) (by decide : ¬ 1 ∈ ([0] : List Nat))) y.cS y.nS_sky (by decide : 0 ∈ ([0] : List Nat)))
    (dss_cons (ds_fld (pv 0) (d_var (pv 2) (by decide : ¬ 2 ∈ ([0] : List Nat))) y.cS y.nS_time (by decide : 0 ∈ ([0] : List Nat)))
    (dss_cons (ds_fld (pv 0) (d_var (pv 3) (by decide : ¬ 3 ∈ ([0] : List Nat))) y.cS y.nS_begun (by decide : 0 ∈ ([0] : List Nat)))
    (dss_cons (ds_fld (pv 0) (d_var (pv 4) (by decide : ¬ 4 ∈ ([0] : List Nat))) y.cS y.nS_promises (by decide : 0 ∈ ([0] : List Nat)))
    (dss_one (ds_fld2 rfl (pv 0) (pv 0) (d_callK (ok_sw (ok_best_keeping y)) (hr.mono (by decide : 9 ≤ 9)) (by rfl) y.m_best_keeping y.F_best_keeping.kp (b_best_keeping y) (da_cons (d_var (pv 1) (by decide : ¬ 1 ∈ ([0] : List Nat))) (da_cons (d_var (pv 4) (by decide : ¬ 4 ∈ ([0] : List Nat))) da_nil)) (dk_cons (d_var (pv 2) (by decide : ¬ 2 ∈ ([0] : List Nat))) (dk_cons (d_var (pv 3) (by decide : ¬ 3 ∈ ([0] : List Nat))) dk_nil))) y.cS y.nS_worth y.nS_plan (by decide : 0 ∈ ([0] : List Nat))))))))
def h_Console___init__ : Dt → Option Out := (sq (stE (eCall 1 f_check_sky (aCons (vr 1) aNil)))
  (sq (stFld 0 "_states" (asL (bA (fun l => (szOk l).map .list) (aCons (bA (mkS 5 f_State___init__) (aCons (bA (gN 1 f_copied) (aCons (vr 1) aNil)) (aCons (cD (.int 0)) (aCons (asL (bA (fun l => (szOk l).map .list) aNil)) (aCons (asL (bA (fun l => (szOk l).map .list) aNil)) aNil))))) aNil))))
  (sq (stFld 0 "_at" (cD (.int 0)))
  (stFld 0 "_entries" (asL (bA (fun l => (szOk l).map .list) aNil))))))
def f_Console___init__ : List (PyData × PyData) → List PyData → Option Rm := runM ["self", "sky"] h_Console___init__
theorem ok_Console___init__ {w : World} (y : Hy K mg base fd k) : FnOk Pg w K mg base (L2.CX Pg w) 12 (A_Console___init__ K) (fd 24) ["self", "sky"] (spM k 2 f_Console___init__) := by
  have nd := (sc_Console___init__).nd
  refine okM (h := h_Console___init__) [0] y.F_Console___init__ sc_Console___init__ fun cdv A outer s H E p F0 H0 hr => ?_
  exact (dss_cons (ds_exprE (e_call (ok_check_sky y) (takes_of rfl rfl rfl rfl) (hr.mono (by decide : 3 ≤ 11)) (by rfl) y.m_check_sky y.F_check_sky.kp (b_check_sky y) (da_cons (d_var (pv 1) (by decide : ¬ 1 ∈ ([0] : List Nat))) da_nil)))
    (dss_cons (ds_fld (pv 0) (d_ofN (dn_lst (da_cons (d_mkS y.mkS (ok_State___init__ y) (hr.mono (by decide : 11 ≤ 11)) (by rfl) y.m_State (b_State___init__ y) (da_cons (d_call (ok_copied y) (hr.mono (by decide : 1 ≤ 11)) (by rfl) y.m_copied y.F_copied.kp (b_copied y) (da_cons (d_var (pv 1) (by decide : ¬ 1 ∈ ([0] : List Nat))) da_nil)) (da_cons d_int (da_cons (d_ofN (dn_lst da_nil)) (da_cons (d_ofN (dn_lst da_nil)) da_nil))))) da_nil))) y.cO y.nO_states (by decide : 0 ∈ ([0] : List Nat)))
    (dss_cons (ds_fld (pv 0) d_int y.cO y.nO_at (by decide : 0 ∈ ([0] : List Nat)))
    (dss_one (ds_fld (pv 0) (d_ofN (dn_lst da_nil)) y.cO y.nO_entries (by decide : 0 ∈ ([0] : List Nat)))))))
def h_Console__state : Dt → Option Out := (stRet (b2 ixD (b1 (fldO "_states") (vr 0)) (b1 (fldO "_at") (vr 0))))
def f_Console__state : List PyData → Option Rs := runP ["self"] h_Console__state
theorem ok_Console__state {w : World} (y : Hy K mg base fd k) : FnOk Pg w K mg base (L2.CX Pg w) 1 (A_Console__state K) (fd 25) ["self"] (spP k 1 f_Console__state) := by
  have nd := (sc_Console__state).nd
  refine okP (h := h_Console__state) [] y.F_Console__state sc_Console__state fun cdv A outer s H E F0 H0 hr => ?_
  exact (dss_one (ds_ret (d_ix ix_seq o_ix (d_fldO y.cO y.nO_states (d_var (pv 0) (by decide : ¬ 0 ∈ ([] : List Nat)))) (d_fldO y.cO y.nO_at (d_var (pv 0) (by decide : ¬ 0 ∈ ([] : List Nat)))) fun _ _ => rfl)))
def h_Console__enter : Dt → Option Out := (sq (stFld 0 "_states" (gOwn [0] (b2 catL (asL (slD (b1 (fldO "_states") (vr 0)) (tPt none) (tPt (some (b2 addI (b1 (fldO "_at") (vr 0)) (cD (.int 1))))))) (asL (bA (fun l => (szOk l).map .list) (aCons (vr 1) aNil))))))
  (sq (stFldAdd 0 "_at" (cD (.int 1)))
  (stFld 0 "_entries" (gOwn [0] (b2 catL (b1 (fldO "_entries") (vr 0)) (asL (bA (fun l => (szOk l).map .list) (aCons (vr 2) aNil))))))))
def f_Console__enter : List (PyData × PyData) → List PyData → Option Rm := runM ["self", "state", "entry"] h_Console__enter
theorem ok_Console__enter {w : World} (y : Hy K mg base fd k) : FnOk Pg w K mg base (L2.CX Pg w) 1 (A_Console__enter K) (fd 26) ["self", "state", "entry"] (spM k 3 f_Console__enter) := by
  have nd := (sc_Console__enter).nd
  refine okM (h := h_Console__enter) [0] y.F_Console__enter sc_Console__enter fun cdv A outer s H E p F0 H0 hr => ?_
  exact (dss_cons (ds_fld (pv 0) (d_frzO y.SO (d_op op_cat o_catL (d_ofN (dn_slice (d_fldO y.cO y.nO_states (d_var (pv 0) (by decide : ¬ 0 ∈ ([] : List Nat)))) do_none (do_some (d_op op_add o_add (d_fldO y.cO y.nO_at (d_var (pv 0) (by decide : ¬ 0 ∈ ([] : List Nat)))) d_int)))) (d_ofN (dn_lst (da_cons (d_var (pv 1) (by decide : ¬ 1 ∈ ([] : List Nat))) da_nil))))) y.cO y.nO_states (by decide : 0 ∈ ([0] : List Nat)))
    (dss_cons (ds_fldadd (pv 0) d_int y.cO y.nO_at (by decide : 0 ∈ ([0] : List Nat)))
    (dss_one (ds_fld (pv 0) (d_frzO y.SO (d_op op_cat o_catL (d_fldO y.cO y.nO_entries (d_var (pv 0) (by decide : ¬ 0 ∈ ([] : List Nat)))) (d_ofN (dn_lst (da_cons (d_var (pv 2) (by decide : ¬ 2 ∈ ([] : List Nat))) da_nil))))) y.cO y.nO_entries (by decide : 0 ∈ ([0] : List Nat))))))
def cp_Console_go_1 : Dt → Option PyData := (lcD [4] (listI (b1 (fldS "plan") (vr 2))) (setD 4) (tB (b2 ltI (b2 ixD (b2 ixD (b2 ixD (b1 (fldS "sky") (vr 2)) (cD (.int 0))) (vr 4)) (cD (.int 1))) (vr 1))) (vr 4))
def h_Console_go : Dt → Option Out := (sq (stSet 2 (gOwn [0] (fMeth "_state" f_Console__state (vr 0))))
  (sq (stIf (tNotD (tB (bA (gN 3 f_is_within) (aCons (vr 1) (aCons (b1 (fldS "time") (vr 2)) (aCons (cD (.int 200)) aNil))))))
  (stRaise 3 aNil)
  stNx)
  (sq (stSet 3 (asL cp_Console_go_1))
  (sq (stSet 5 (asL (slD (vr 3) (tPt (some (bA lenD (aCons (b1 (fldS "begun") (vr 2)) aNil)))) (tPt none))))
  (sq (stE (eMeth 0 "_enter" 3 f_Console__enter (aCons (bA (mkS 5 f_State___init__) (aCons (b1 (fldS "sky") (vr 2)) (aCons (vr 1) (aCons (vr 3) (aCons (b1 (fldS "promises") (vr 2)) aNil))))) (aCons (bA (fun l => (szOk l).map .tuple) (aCons (cD (.str "go")) (aCons (vr 1) aNil))) aNil))))
  (stRet (vr 5)))))))
def f_Console_go : List (PyData × PyData) → List PyData → Option Rm := runM ["self", "time", "state", "begun", "look", "fresh"] h_Console_go
theorem ok_Console_go {w : World} (y : Hy K mg base fd k) : FnOk Pg w K mg base (L2.CX Pg w) 12 (A_Console_go K) (fd 27) ["self", "time"] (spM k 2 f_Console_go) := by
  have nd := (sc_Console_go).nd
  refine okM (h := h_Console_go) [0] y.F_Console_go sc_Console_go fun cdv A outer s H E p F0 H0 hr => ?_
  exact (dss_cons (ds_set (ps_set nd (i := 2) rfl (Or.inr rfl) (d_frzO y.SO (d_meth0 (ok_Console__state y) (d_var (pv 0) (by decide : ¬ 0 ∈ ([] : List Nat))) y.cO y.M__state (hr.mono (by decide : 1 ≤ 11)) (b_Console__state y)))) (by decide : ¬ 2 ∈ ([0] : List Nat)))
    (dss_cons (ds_if (dt_not (dt_val (d_call (ok_is_within y) (hr.mono (by decide : 1 ≤ 11)) (by rfl) y.m_is_within y.F_is_within.kp (b_is_within y) (da_cons (d_var (pv 1) (by decide : ¬ 1 ∈ ([0] : List Nat))) (da_cons (d_fldS y.cS y.nS_time (d_var (pv 2) (by decide : ¬ 2 ∈ ([0] : List Nat)))) (da_cons (d_cst y.c_LAST rfl) da_nil)))) (by intro _; rfl)))
    (dss_one (ds_raise rfl (takes_of rfl rfl rfl rfl) (mk0 rfl y.E_BadTime S_BadTime y.m_super (hr.mono (by decide : 1 ≤ 11)) (by rfl) y.m_BadTime)))
    dss_nil)
    (dss_cons (ds_set (das_ofN (das_lc (i := 3) (own := [("look", 4)]) rfl nd rfl rfl (sw_true rfl rfl rfl (by decide +kernel)) (di_weak (di_list (d_fldS y.cS y.nS_plan (d_var (pv 2) (by decide : ¬ 2 ∈ ([0] : List Nat)))))) (blkOk_by (N := ["self", "time", "state", "begun", "look", "fresh"]) (sc := defScope st_Console_go) (by decide +kernel)) (fun _ _ _ _ _ => (dg_name (pg_name nd (i := 4) rfl (Or.inl rfl)) (by decide : ¬ 4 ∈ ([0] : List Nat)))) (fun _ _ _ _ _ => dts_one (dt_cmp op_lt o_lt (d_ix ix_seq o_ix (d_ix ix_seq o_ix (d_ix ix_seq o_ix (d_fldS y.cS y.nS_sky (d_var (pv 2) (by decide : ¬ 2 ∈ ([0] : List Nat)))) d_int fun _ _ => rfl) (d_var (pv 4) (by decide : ¬ 4 ∈ ([0] : List Nat))) fun _ _ => rfl) d_int fun _ _ => rfl) (d_var (pv 1) (by decide : ¬ 1 ∈ ([0] : List Nat))) (nomark _))) (fun _ _ _ _ _ => (d_var (pv 4) (by decide : ¬ 4 ∈ ([0] : List Nat)))))) (by decide : ¬ 3 ∈ ([0] : List Nat)))
    (dss_cons (ds_set (ps_set nd (i := 5) rfl (Or.inl rfl) (d_ofN (dn_slice (d_var (pv 3) (by decide : ¬ 3 ∈ ([0] : List Nat))) (do_some (d_callB call_len_seq o_len (by rfl) y.b_len (by rfl) (da_cons (d_fldS y.cS y.nS_begun (d_var (pv 2) (by decide : ¬ 2 ∈ ([0] : List Nat)))) da_nil))) do_none))) (by decide : ¬ 5 ∈ ([0] : List Nat)))
    (dss_cons (ds_exprE (e_meth (ok_Console__enter y) (takes_of rfl rfl rfl rfl) (by decide : 0 ∈ ([0] : List Nat)) (pv 0) y.cO y.M__enter (hr.mono (by decide : 1 ≤ 11)) (b_Console__enter y) (da_cons (d_mkS y.mkS (ok_State___init__ y) (hr.mono (by decide : 11 ≤ 11)) (by rfl) y.m_State (b_State___init__ y) (da_cons (d_fldS y.cS y.nS_sky (d_var (pv 2) (by decide : ¬ 2 ∈ ([0] : List Nat)))) (da_cons (d_var (pv 1) (by decide : ¬ 1 ∈ ([0] : List Nat))) (da_cons (d_var (pv 3) (by decide : ¬ 3 ∈ ([0] : List Nat))) (da_cons (d_fldS y.cS y.nS_promises (d_var (pv 2) (by decide : ¬ 2 ∈ ([0] : List Nat)))) da_nil))))) (da_cons (d_tup (da_cons d_str (da_cons (d_var (pv 1) (by decide : ¬ 1 ∈ ([0] : List Nat))) da_nil))) da_nil))))
    (dss_one (ds_ret (d_var (pv 5) (by decide : ¬ 5 ∈ ([0] : List Nat))))))))))
def h_Console_wish : Dt → Option Out := (sq (stSet 3 (gOwn [0] (fMeth "_state" f_Console__state (vr 0))))
  (sq (stSetE 4 (eCall 4 f_with_late (aCat 3 1 (aCons (b1 (fldS "sky") (vr 3)) (aCons (vr 1) (aCons (vr 2) aNil))) (aCons (b1 (fldS "time") (vr 3)) aNil))))
  (sq (stE (eMeth 0 "_enter" 3 f_Console__enter (aCons (bA (mkS 5 f_State___init__) (aCons (vr 4) (aCons (b1 (fldS "time") (vr 3)) (aCons (b1 (fldS "begun") (vr 3)) (aCons (b1 (fldS "promises") (vr 3)) aNil))))) (aCons (bA (fun l => (szOk l).map .tuple) (aCons (cD (.str "wish")) (aCons (vr 1) (aCons (asL (starD (vr 2))) aNil)))) aNil))))
  (stRet (b2 subI (bA lenD (aCons (b2 ixD (vr 4) (cD (.int 1))) aNil)) (cD (.int 1)))))))
def f_Console_wish : List (PyData × PyData) → List PyData → Option Rm := runM ["self", "worth", "looks", "state", "sky"] h_Console_wish
theorem ok_Console_wish {w : World} (y : Hy K mg base fd k) : FnOk Pg w K mg base (L2.CX Pg w) 12 (A_Console_wish K) (fd 28) ["self", "worth", "looks"] (spM k 3 f_Console_wish) := by
  have nd := (sc_Console_wish).nd
  refine okM (h := h_Console_wish) [0] y.F_Console_wish sc_Console_wish fun cdv A outer s H E p F0 H0 hr => ?_
  exact (dss_cons (ds_set (ps_set nd (i := 3) rfl (Or.inl rfl) (d_frzO y.SO (d_meth0 (ok_Console__state y) (d_var (pv 0) (by decide : ¬ 0 ∈ ([] : List Nat))) y.cO y.M__state (hr.mono (by decide : 1 ≤ 11)) (b_Console__state y)))) (by decide : ¬ 3 ∈ ([0] : List Nat)))
    (dss_cons (ds_setE (ps_set nd (i := 4) rfl (Or.inl rfl) (e_callK (ok_with_late y) (takes_of rfl rfl rfl rfl) (hr.mono (by decide : 4 ≤ 11)) (by rfl) y.m_with_late y.F_with_late.kp (b_with_late y) (da_cons (d_fldS y.cS y.nS_sky (d_var (pv 3) (by decide : ¬ 3 ∈ ([0] : List Nat)))) (da_cons (d_var (pv 1) (by decide : ¬ 1 ∈ ([0] : List Nat))) (da_cons (d_var (pv 2) (by decide : ¬ 2 ∈ ([0] : List Nat))) da_nil))) (dk_cons (d_fldS y.cS y.nS_time (d_var (pv 3) (by decide : ¬ 3 ∈ ([0] : List Nat)))) dk_nil))) (by decide : ¬ 4 ∈ ([0] : List Nat)))
    (dss_cons (ds_exprE (e_meth (ok_Console__enter y) (takes_of rfl rfl rfl rfl) (by decide : 0 ∈ ([0] : List Nat)) (pv 0) y.cO y.M__enter (hr.mono (by decide : 1 ≤ 11)) (b_Console__enter y) (da_cons (d_mkS y.mkS (ok_State___init__ y) (hr.mono (by decide : 11 ≤ 11)) (by rfl) y.m_State (b_State___init__ y) (da_cons (d_var (pv 4) (by decide : ¬ 4 ∈ ([0] : List Nat))) (da_cons (d_fldS y.cS y.nS_time (d_var (pv 3) (by decide : ¬ 3 ∈ ([0] : List Nat)))) (da_cons (d_fldS y.cS y.nS_begun (d_var (pv 3) (by decide : ¬ 3 ∈ ([0] : List Nat)))) (da_cons (d_fldS y.cS y.nS_promises (d_var (pv 3) (by decide : ¬ 3 ∈ ([0] : List Nat)))) da_nil))))) (da_cons (d_tup (da_cons d_str (da_cons (d_var (pv 1) (by decide : ¬ 1 ∈ ([0] : List Nat))) (da_cons (d_ofN (dn_star (d_var (pv 2) (by decide : ¬ 2 ∈ ([0] : List Nat))))) da_nil)))) da_nil))))
    (dss_one (ds_ret (d_op op_sub o_sub (d_callB call_len_seq o_len (by rfl) y.b_len (by rfl) (da_cons (d_ix ix_seq o_ix (d_var (pv 4) (by decide : ¬ 4 ∈ ([0] : List Nat))) d_int fun _ _ => rfl) da_nil)) d_int))))))
def h_Console__check_wish : Dt → Option Out := (sq (stSet 3 (gOwn [0] (fMeth "_state" f_Console__state (vr 0))))
  (sq (stIf (tNotD (tB (bA (gN 3 f_is_within) (aCons (vr 1) (aCons (cD (.int 0)) (aCons (b2 subI (bA lenD (aCons (b2 ixD (b1 (fldS "sky") (vr 3)) (cD (.int 1))) aNil)) (cD (.int 1))) aNil))))))
  (stRaise 2 aNil)
  stNx)
  (stIf (tB (b2 neD (b2 inD (vr 1) (b1 (fldS "promises") (vr 3))) (vr 2)))
  (stRaise 5 aNil)
  stNx)))
def f_Console__check_wish : List (PyData × PyData) → List PyData → Option Rm := runM ["self", "wish", "is_promised", "state"] h_Console__check_wish
theorem ok_Console__check_wish {w : World} (y : Hy K mg base fd k) : FnOk Pg w K mg base (L2.CX Pg w) 2 (A_Console__check_wish K) (fd 29) ["self", "wish", "is_promised"] (spM k 3 f_Console__check_wish) := by
  have nd := (sc_Console__check_wish).nd
  refine okM (h := h_Console__check_wish) [0] y.F_Console__check_wish sc_Console__check_wish fun cdv A outer s H E p F0 H0 hr => ?_
  exact (dss_cons (ds_set (ps_set nd (i := 3) rfl (Or.inl rfl) (d_frzO y.SO (d_meth0 (ok_Console__state y) (d_var (pv 0) (by decide : ¬ 0 ∈ ([] : List Nat))) y.cO y.M__state (hr.mono (by decide : 1 ≤ 1)) (b_Console__state y)))) (by decide : ¬ 3 ∈ ([0] : List Nat)))
    (dss_cons (ds_if (dt_not (dt_val (d_call (ok_is_within y) (hr.mono (by decide : 1 ≤ 1)) (by rfl) y.m_is_within y.F_is_within.kp (b_is_within y) (da_cons (d_var (pv 1) (by decide : ¬ 1 ∈ ([0] : List Nat))) (da_cons d_int (da_cons (d_op op_sub o_sub (d_callB call_len_seq o_len (by rfl) y.b_len (by rfl) (da_cons (d_ix ix_seq o_ix (d_fldS y.cS y.nS_sky (d_var (pv 3) (by decide : ¬ 3 ∈ ([0] : List Nat)))) d_int fun _ _ => rfl) da_nil)) d_int) da_nil)))) (by intro _; rfl)))
    (dss_one (ds_raise rfl (takes_of rfl rfl rfl rfl) (mk0 rfl y.E_BadWish S_BadWish y.m_super (hr.mono (by decide : 1 ≤ 1)) (by rfl) y.m_BadWish)))
    dss_nil)
    (dss_one (ds_if (dt_cmp (op_neD hr.units) o_neD (d_cmp (op_inD (u65 hr)) o_inD (d_var (pv 1) (by decide : ¬ 1 ∈ ([0] : List Nat))) (d_fldS y.cS y.nS_promises (d_var (pv 3) (by decide : ¬ 3 ∈ ([0] : List Nat)))) rfl) (d_var (pv 2) (by decide : ¬ 2 ∈ ([0] : List Nat))) (nomark _))
    (dss_one (ds_raise rfl (takes_of rfl rfl rfl rfl) (mk0 rfl y.E_NotSo S_NotSo y.m_super (hr.mono (by decide : 1 ≤ 1)) (by rfl) y.m_NotSo)))
    dss_nil))))
def h_Console_promise : Dt → Option Out := (sq (stE (eMeth 0 "_check_wish" 3 f_Console__check_wish (aCat 1 1 (aCons (vr 1) aNil) (aCons (cD (.bool false)) aNil))))
  (sq (stSet 2 (gOwn [0] (fMeth "_state" f_Console__state (vr 0))))
  (sq (stSet 3 (bA (gN 5 f_clash_of) (aCat 3 2 (aCons (b1 (fldS "sky") (vr 2)) (aCons (b1 (fldS "promises") (vr 2)) (aCons (vr 1) aNil))) (aCons (b1 (fldS "time") (vr 2)) (aCons (b1 (fldS "begun") (vr 2)) aNil)))))
  (sq (stIf (tB (b2 isNotN (vr 3) (cD .none)))
  (stRaise 6 (aCons (vr 3) aNil))
  stNx)
  (sq (stE (eMeth 0 "_enter" 3 f_Console__enter (aCons (bA (mkS 5 f_State___init__) (aCons (b1 (fldS "sky") (vr 2)) (aCons (b1 (fldS "time") (vr 2)) (aCons (b1 (fldS "begun") (vr 2)) (aCons (bA srtI (aCons (b2 catL (b1 (fldS "promises") (vr 2)) (asL (bA (fun l => (szOk l).map .list) (aCons (vr 1) aNil)))) aNil)) aNil))))) (aCons (bA (fun l => (szOk l).map .tuple) (aCons (cD (.str "promise")) (aCons (vr 1) aNil))) aNil))))
  (stRet (gOwn [0] (b2 subI (b1 (fldS "worth") (vr 2)) (b1 (fldS "worth") (fMeth "_state" f_Console__state (vr 0)))))))))))
def f_Console_promise : List (PyData × PyData) → List PyData → Option Rm := runM ["self", "wish", "state", "clash"] h_Console_promise
theorem ok_Console_promise {w : World} (y : Hy K mg base fd k) : FnOk Pg w K mg base (L2.CX Pg w) 12 (A_Console_promise K) (fd 30) ["self", "wish"] (spM k 2 f_Console_promise) := by
  have nd := (sc_Console_promise).nd
  refine okM (h := h_Console_promise) [0] y.F_Console_promise sc_Console_promise fun cdv A outer s H E p F0 H0 hr => ?_
  exact (dss_cons (ds_exprE (e_methK (ok_Console__check_wish y) (takes_of rfl rfl rfl rfl) (pv 0) y.cO y.M__check_wish (hr.mono (by decide : 2 ≤ 11)) (b_Console__check_wish y) (da_cons (d_var (pv 1) (by decide : ¬ 1 ∈ ([0] : List Nat))) da_nil) (dk_cons d_bl dk_nil) (by decide : 0 ∈ ([0] : List Nat))))
    (dss_cons (ds_set (ps_set nd (i := 2) rfl (Or.inl rfl) (d_frzO y.SO (d_meth0 (ok_Console__state y) (d_var (pv 0) (by decide : ¬ 0 ∈ ([] : List Nat))) y.cO y.M__state (hr.mono (by decide : 1 ≤ 11)) (b_Console__state y)))) (by decide : ¬ 2 ∈ ([0] : List Nat)))
    (dss_cons (ds_set (ps_set nd (i := 3) rfl (Or.inl rfl) (d_callK (ok_clash_of y) (hr.mono (by decide : 8 ≤ 11)) (by rfl) y.m_clash_of y.F_clash_of.kp (b_clash_of y) (da_cons (d_fldS y.cS y.nS_sky (d_var (pv 2) (by decide : ¬ 2 ∈ ([0] : List Nat)))) (da_cons (d_fldS y.cS y.nS_promises (d_var (pv 2) (by decide : ¬ 2 ∈ ([0] : List Nat)))) (da_cons (d_var (pv 1) (by decide : ¬ 1 ∈ ([0] : List Nat))) da_nil))) (dk_cons (d_fldS y.cS y.nS_time (d_var (pv 2) (by decide : ¬ 2 ∈ ([0] : List Nat)))) (dk_cons (d_fldS y.cS y.nS_begun (d_var (pv 2) (by decide : ¬ 2 ∈ ([0] : List Nat)))) dk_nil)))) (by decide : ¬ 3 ∈ ([0] : List Nat)))
    (dss_cons (ds_if (dt_cmp op_notN o_isNotN (d_var (pv 3) (by decide : ¬ 3 ∈ ([0] : List Nat))) d_non (nomark _))
    (dss_one (ds_raise rfl (takes_of rfl rfl rfl rfl) (mk1 rfl y.E_Clash S_Clash y.saC y.noW y.m_super (hr.mono (by decide : 1 ≤ 11)) (by rfl) y.m_Clash (d_var (pv 3) (by decide : ¬ 3 ∈ ([0] : List Nat))))))
    dss_nil)
    (dss_cons (ds_exprE (e_meth (ok_Console__enter y) (takes_of rfl rfl rfl rfl) (by decide : 0 ∈ ([0] : List Nat)) (pv 0) y.cO y.M__enter (hr.mono (by decide : 1 ≤ 11)) (b_Console__enter y) (da_cons (d_mkS y.mkS (ok_State___init__ y) (hr.mono (by decide : 11 ≤ 11)) (by rfl) y.m_State (b_State___init__ y) (da_cons (d_fldS y.cS y.nS_sky (d_var (pv 2) (by decide : ¬ 2 ∈ ([0] : List Nat)))) (da_cons (d_fldS y.cS y.nS_time (d_var (pv 2) (by decide : ¬ 2 ∈ ([0] : List Nat)))) (da_cons (d_fldS y.cS y.nS_begun (d_var (pv 2) (by decide : ¬ 2 ∈ ([0] : List Nat)))) (da_cons (d_callB (cr_srtI hr.units) o_srtI (by rfl) y.b_sorted (by rfl) (da_cons (d_op op_cat o_catL (d_fldS y.cS y.nS_promises (d_var (pv 2) (by decide : ¬ 2 ∈ ([0] : List Nat)))) (d_ofN (dn_lst (da_cons (d_var (pv 1) (by decide : ¬ 1 ∈ ([0] : List Nat))) da_nil)))) da_nil)) da_nil))))) (da_cons (d_tup (da_cons d_str (da_cons (d_var (pv 1) (by decide : ¬ 1 ∈ ([0] : List Nat))) da_nil))) da_nil))))
    (dss_one (ds_ret (d_frzO y.SO (d_op op_sub o_sub (d_fldS y.cS y.nS_worth (d_var (pv 2) (by decide : ¬ 2 ∈ ([] : List Nat)))) (d_fldS y.cS y.nS_worth (d_meth0 (ok_Console__state y) (d_var (pv 0) (by decide : ¬ 0 ∈ ([] : List Nat))) y.cO y.M__state (hr.mono (by decide : 1 ≤ 11)) (b_Console__state y))))))))))))
def cp_Console_release_1 : Dt → Option PyData := (lcD [4] (listI (b1 (fldS "promises") (vr 2))) (setD 4) (tB (b2 neD (vr 4) (vr 1))) (vr 4))
def h_Console_release : Dt → Option Out := (sq (stE (eMeth 0 "_check_wish" 3 f_Console__check_wish (aCat 1 1 (aCons (vr 1) aNil) (aCons (cD (.bool true)) aNil))))
  (sq (stSet 2 (gOwn [0] (fMeth "_state" f_Console__state (vr 0))))
  (sq (stSet 3 (asL cp_Console_release_1))
  (sq (stE (eMeth 0 "_enter" 3 f_Console__enter (aCons (bA (mkS 5 f_State___init__) (aCons (b1 (fldS "sky") (vr 2)) (aCons (b1 (fldS "time") (vr 2)) (aCons (b1 (fldS "begun") (vr 2)) (aCons (vr 3) aNil))))) (aCons (bA (fun l => (szOk l).map .tuple) (aCons (cD (.str "release")) (aCons (vr 1) aNil))) aNil))))
  (stRet (gOwn [0] (b2 subI (b1 (fldS "worth") (fMeth "_state" f_Console__state (vr 0))) (b1 (fldS "worth") (vr 2)))))))))
def f_Console_release : List (PyData × PyData) → List PyData → Option Rm := runM ["self", "wish", "state", "rest", "promise"] h_Console_release
theorem ok_Console_release {w : World} (y : Hy K mg base fd k) : FnOk Pg w K mg base (L2.CX Pg w) 12 (A_Console_release K) (fd 31) ["self", "wish"] (spM k 2 f_Console_release) := by
  have nd := (sc_Console_release).nd
  refine okM (h := h_Console_release) [0] y.F_Console_release sc_Console_release fun cdv A outer s H E p F0 H0 hr => ?_
  exact (dss_cons (ds_exprE (e_methK (ok_Console__check_wish y) (takes_of rfl rfl rfl rfl) (pv 0) y.cO y.M__check_wish (hr.mono (by decide : 2 ≤ 11)) (b_Console__check_wish y) (da_cons (d_var (pv 1) (by decide : ¬ 1 ∈ ([0] : List Nat))) da_nil) (dk_cons d_bl dk_nil) (by decide : 0 ∈ ([0] : List Nat))))
    (dss_cons (ds_set (ps_set nd (i := 2) rfl (Or.inl rfl) (d_frzO y.SO (d_meth0 (ok_Console__state y) (d_var (pv 0) (by decide : ¬ 0 ∈ ([] : List Nat))) y.cO y.M__state (hr.mono (by decide : 1 ≤ 11)) (b_Console__state y)))) (by decide : ¬ 2 ∈ ([0] : List Nat)))
    (dss_cons (ds_set (das_ofN (das_lc (i := 3) (own := [("promise", 4)]) rfl nd rfl rfl (sw_true rfl rfl rfl (by decide +kernel)) (di_weak (di_list (d_fldS y.cS y.nS_promises (d_var (pv 2) (by decide : ¬ 2 ∈ ([0] : List Nat)))))) (blkOk_by (N := ["self", "wish", "state", "rest", "promise"]) (sc := defScope st_Console_release) (by decide +kernel)) (fun _ _ _ _ _ => (dg_name (pg_name nd (i := 4) rfl (Or.inl rfl)) (by decide : ¬ 4 ∈ ([0] : List Nat)))) (fun _ _ _ _ _ => dts_one (dt_cmp (op_neD hr.units) o_neD (d_var (pv 4) (by decide : ¬ 4 ∈ ([0] : List Nat))) (d_var (pv 1) (by decide : ¬ 1 ∈ ([0] : List Nat))) (nomark _))) (fun _ _ _ _ _ => (d_var (pv 4) (by decide : ¬ 4 ∈ ([0] : List Nat)))))) (by decide : ¬ 3 ∈ ([0] : List Nat)))
    (dss_cons (ds_exprE (e_meth (ok_Console__enter y) (takes_of rfl rfl rfl rfl) (by decide : 0 ∈ ([0] : List Nat)) (pv 0) y.cO y.M__enter (hr.mono (by decide : 1 ≤ 11)) (b_Console__enter y) (da_cons (d_mkS y.mkS (ok_State___init__ y) (hr.mono (by decide : 11 ≤ 11)) (by rfl) y.m_State (b_State___init__ y) (da_cons (d_fldS y.cS y.nS_sky (d_var (pv 2) (by decide : ¬ 2 ∈ ([0] : List Nat)))) (da_cons (d_fldS y.cS y.nS_time (d_var (pv 2) (by decide : ¬ 2 ∈ ([0] : List Nat)))) (da_cons (d_fldS y.cS y.nS_begun (d_var (pv 2) (by decide : ¬ 2 ∈ ([0] : List Nat)))) (da_cons (d_var (pv 3) (by decide : ¬ 3 ∈ ([0] : List Nat))) da_nil))))) (da_cons (d_tup (da_cons d_str (da_cons (d_var (pv 1) (by decide : ¬ 1 ∈ ([0] : List Nat))) da_nil))) da_nil))))
    (dss_one (ds_ret (d_frzO y.SO (d_op op_sub o_sub (d_fldS y.cS y.nS_worth (d_meth0 (ok_Console__state y) (d_var (pv 0) (by decide : ¬ 0 ∈ ([] : List Nat))) y.cO y.M__state (hr.mono (by decide : 1 ≤ 11)) (b_Console__state y))) (d_fldS y.cS y.nS_worth (d_var (pv 2) (by decide : ¬ 2 ∈ ([] : List Nat))))))))))))
def lp_Console_lose_1 : Dt → Option Out := (stIf (tB (bA (gN 4 f_can_keep) (aCat 2 2 (aCons (vr 8) (aCons (b2 catL (vr 9) (asL (bA (fun l => (szOk l).map .list) (aCons (vr 10) aNil)))) aNil)) (aCons (b1 (fldS "time") (vr 2)) (aCons (b1 (fldS "begun") (vr 2)) aNil)))))
  (stApp 9 (vr 10))
  stNx)
def cp_Console_lose_1 : Dt → Option PyData := (lcD [10] (listI (b1 (fldS "promises") (vr 2))) (setD 10) (tB (b2 notInD (vr 10) (vr 9))) (vr 10))
def h_Console_lose : Dt → Option Out := (sq (stSet 2 (gOwn [0, 9] (fMeth "_state" f_Console__state (vr 0))))
  (sq (stG (b1 (fldS "sky") (vr 2)) (gT 5 (gsCons (setD 3) (gsCons (setD 4) (gsCons (setD 5) (gsCons (setD 6) (gsCons (setD 7) gsNil)))))))
  (sq (stIf (tOrD (tNotD (tB (bA (gN 3 f_is_within) (aCons (vr 1) (aCons (cD (.int 0)) (aCons (b2 subI (bA lenD (aCons (vr 5) aNil)) (cD (.int 1))) aNil)))))) (tB (b2 ltI (b2 ixD (b2 ixD (vr 5) (vr 1)) (cD (.int 0))) (b1 (fldS "time") (vr 2)))))
  (stRaise 4 aNil)
  stNx)
  (sq (stSet 8 (bA (fun l => (szOk l).map .tuple) (aCons (vr 3) (aCons (vr 4) (aCons (b2 catL (asL (slD (vr 5) (tPt none) (tPt (some (vr 1))))) (asL (slD (vr 5) (tPt (some (b2 addI (vr 1) (cD (.int 1))))) (tPt none)))) (aCons (vr 6) (aCons (vr 7) aNil)))))))
  (sq (stSet 9 (asL (bA (fun l => (szOk l).map .list) aNil)))
  (sq (stFor (listI (b1 (fldS "promises") (vr 2))) (setD 10) lp_Console_lose_1)
  (noNx (sq (stE (eMeth 0 "_enter" 3 f_Console__enter (aCons (bA (mkS 5 f_State___init__) (aCons (vr 8) (aCons (b1 (fldS "time") (vr 2)) (aCons (b1 (fldS "begun") (vr 2)) (aCons (vr 9) aNil))))) (aCons (bA (fun l => (szOk l).map .tuple) (aCons (cD (.str "lose")) (aCons (vr 1) aNil))) aNil))))
  (stRet (asL cp_Console_lose_1))))))))))
def f_Console_lose : List (PyData × PyData) → List PyData → Option Rm := runM ["self", "ear", "state", "looks", "worths", "ears", "capacity", "turn", "sky", "kept", "promise"] h_Console_lose
theorem ok_Console_lose {w : World} (y : Hy K mg base fd k) : FnOk Pg w K mg base (L2.CX Pg w) 12 (A_Console_lose K) (fd 32) ["self", "ear"] (spM k 2 f_Console_lose) := by
  have nd := (sc_Console_lose).nd
  refine okM (h := h_Console_lose) [0, 9] y.F_Console_lose sc_Console_lose fun cdv A outer s H E p F0 H0 hr => ?_
  exact (dss_cons (ds_set (ps_set nd (i := 2) rfl (Or.inl rfl) (d_frzO y.SO (d_meth0 (ok_Console__state y) (d_var (pv 0) (by decide : ¬ 0 ∈ ([] : List Nat))) y.cO y.M__state (hr.mono (by decide : 1 ≤ 11)) (b_Console__state y)))) (by decide : ¬ 2 ∈ ([0, 9] : List Nat)))
    (dss_cons (ds_G (ps_asg (d_fldS y.cS y.nS_sky (d_var (pv 2) (by decide : ¬ 2 ∈ ([0, 9] : List Nat)))) (dg_tup rfl (dgs_cons (dg_name (pg_name nd (i := 3) rfl (Or.inl rfl)) (by decide : ¬ 3 ∈ ([0, 9] : List Nat))) (dgs_cons (dg_name (pg_name nd (i := 4) rfl (Or.inl rfl)) (by decide : ¬ 4 ∈ ([0, 9] : List Nat))) (dgs_cons (dg_name (pg_name nd (i := 5) rfl (Or.inl rfl)) (by decide : ¬ 5 ∈ ([0, 9] : List Nat))) (dgs_cons (dg_name (pg_name nd (i := 6) rfl (Or.inl rfl)) (by decide : ¬ 6 ∈ ([0, 9] : List Nat))) (dgs_cons (dg_name (pg_name nd (i := 7) rfl (Or.inl rfl)) (by decide : ¬ 7 ∈ ([0, 9] : List Nat))) dgs_nil))))))) (by decide : ∀ j ∈ ([3, 4, 5, 6, 7] : List Nat), j ∉ ([0, 9] : List Nat)))
    (dss_cons (ds_if (PW.pt (dw_or (dt_not (dt_val (d_call (ok_is_within y) (hr.mono (by decide : 1 ≤ 11)) (by rfl) y.m_is_within y.F_is_within.kp (b_is_within y) (da_cons (d_var (pv 1) (by decide : ¬ 1 ∈ ([0, 9] : List Nat))) (da_cons d_int (da_cons (d_op op_sub o_sub (d_callB call_len_seq o_len (by rfl) y.b_len (by rfl) (da_cons (d_var (pv 5) (by decide : ¬ 5 ∈ ([0, 9] : List Nat))) da_nil)) d_int) da_nil)))) (by intro _; rfl))) (dw_or1 (dt_cmp op_lt o_lt (d_ix ix_seq o_ix (d_ix ix_seq o_ix (d_var (pv 5) (by decide : ¬ 5 ∈ ([0, 9] : List Nat))) (d_var (pv 1) (by decide : ¬ 1 ∈ ([0, 9] : List Nat))) fun _ _ => rfl) d_int fun _ _ => rfl) (d_fldS y.cS y.nS_time (d_var (pv 2) (by decide : ¬ 2 ∈ ([0, 9] : List Nat)))) (nomark _)))))
    (dss_one (ds_raise rfl (takes_of rfl rfl rfl rfl) (mk0 rfl y.E_BadEar S_BadEar y.m_super (hr.mono (by decide : 1 ≤ 11)) (by rfl) y.m_BadEar)))
    dss_nil)
    (dss_cons (ds_set (ps_set nd (i := 8) rfl (Or.inl rfl) (d_tup (da_cons (d_var (pv 3) (by decide : ¬ 3 ∈ ([0, 9] : List Nat))) (da_cons (d_var (pv 4) (by decide : ¬ 4 ∈ ([0, 9] : List Nat))) (da_cons (d_op op_cat o_catL (d_ofN (dn_slice (d_var (pv 5) (by decide : ¬ 5 ∈ ([0, 9] : List Nat))) do_none (do_some (d_var (pv 1) (by decide : ¬ 1 ∈ ([0, 9] : List Nat)))))) (d_ofN (dn_slice (d_var (pv 5) (by decide : ¬ 5 ∈ ([0, 9] : List Nat))) (do_some (d_op op_add o_add (d_var (pv 1) (by decide : ¬ 1 ∈ ([0, 9] : List Nat))) d_int)) do_none))) (da_cons (d_var (pv 6) (by decide : ¬ 6 ∈ ([0, 9] : List Nat))) (da_cons (d_var (pv 7) (by decide : ¬ 7 ∈ ([0, 9] : List Nat))) da_nil))))))) (by decide : ¬ 8 ∈ ([0, 9] : List Nat)))
    (dss_cons (ds_setN (ps_set nd (i := 9) rfl (Or.inr rfl) (dn_lst da_nil)) (by decide : 9 ∈ ([0, 9] : List Nat)) (.inl (by decide)))
    (dss_cons (ds_for (passes_of rfl) rfl (di_list (d_fldS y.cS y.nS_promises (d_var (pv 2) (by decide : ¬ 2 ∈ ([0, 9] : List Nat))))) (dg_name (pg_name nd (i := 10) rfl (Or.inl rfl)) (by decide : ¬ 10 ∈ ([0, 9] : List Nat)))
    (dss_one (ds_if (dt_frz (dt_val (d_callK (ok_can_keep y) (hr.mono (by decide : 9 ≤ 11)) (by rfl) y.m_can_keep y.F_can_keep.kp (b_can_keep y) (da_cons (d_var (pv 8) (by decide : ¬ 8 ∈ ([] : List Nat))) (da_cons (d_op op_cat o_catL (d_var (pv 9) (by decide : ¬ 9 ∈ ([] : List Nat))) (d_ofN (dn_lst (da_cons (d_var (pv 10) (by decide : ¬ 10 ∈ ([] : List Nat))) da_nil)))) da_nil)) (dk_cons (d_fldS y.cS y.nS_time (d_var (pv 2) (by decide : ¬ 2 ∈ ([] : List Nat)))) (dk_cons (d_fldS y.cS y.nS_begun (d_var (pv 2) (by decide : ¬ 2 ∈ ([] : List Nat)))) dk_nil))) (by intro _; rfl)))
    (dss_one (ds_app (ps_expr (pe_bm PySem.F.plainAttrs_list PySem.F.slot_list_append PySem.F.type_list_append mt_append (pv 9) (pa_cons (d_var (pv 10) (by decide : ¬ 10 ∈ ([0, 9] : List Nat))) pa_nil))) (by decide : 9 ∈ ([0, 9] : List Nat))))
    dss_nil)) (by decide : ∀ j ∈ ([10] : List Nat), j ∉ ([0, 9] : List Nat)))
    (dss_frz [0] (dss_cons (ds_exprE (e_meth (ok_Console__enter y) (takes_of rfl rfl rfl rfl) (by decide : 0 ∈ ([0] : List Nat)) (pv 0) y.cO y.M__enter (hr.mono (by decide : 1 ≤ 11)) (b_Console__enter y) (da_cons (d_mkS y.mkS (ok_State___init__ y) (hr.mono (by decide : 11 ≤ 11)) (by rfl) y.m_State (b_State___init__ y) (da_cons (d_var (pv 8) (by decide : ¬ 8 ∈ ([0] : List Nat))) (da_cons (d_fldS y.cS y.nS_time (d_var (pv 2) (by decide : ¬ 2 ∈ ([0] : List Nat)))) (da_cons (d_fldS y.cS y.nS_begun (d_var (pv 2) (by decide : ¬ 2 ∈ ([0] : List Nat)))) (da_cons (d_var (pv 9) (by decide : ¬ 9 ∈ ([0] : List Nat))) da_nil))))) (da_cons (d_tup (da_cons d_str (da_cons (d_var (pv 1) (by decide : ¬ 1 ∈ ([0] : List Nat))) da_nil))) da_nil))))
    (dss_one (ds_ret (d_ofN (dn_lc (own := [("promise", 10)]) rfl nd (di_weak (di_list (d_fldS y.cS y.nS_promises (d_var (pv 2) (by decide : ¬ 2 ∈ ([0] : List Nat)))))) (blkOk_by (N := ["self", "ear", "state", "looks", "worths", "ears", "capacity", "turn", "sky", "kept", "promise"]) (sc := defScope st_Console_lose) (by decide +kernel)) (fun _ _ _ _ _ => (dg_name (pg_name nd (i := 10) rfl (Or.inl rfl)) (by decide : ¬ 10 ∈ ([0] : List Nat)))) (fun _ _ _ _ _ => dts_one (dt_cmp (op_notInD (u65 hr)) o_notInD (d_var (pv 10) (by decide : ¬ 10 ∈ ([0] : List Nat))) (d_var (pv 9) (by decide : ¬ 9 ∈ ([0] : List Nat))) rfl)) (fun _ _ _ _ _ => (d_var (pv 10) (by decide : ¬ 10 ∈ ([0] : List Nat))))))))) (by decide : ∀ i ∈ ([0] : List Nat), i ∈ ([0, 9] : List Nat)) (by decide : 0 ∈ ([0, 9] : List Nat) → 0 ∈ ([0] : List Nat)))))))))
def h_Console_sky : Dt → Option Out := (stRet (bA (gN 1 f_copied) (aCons (b1 (fldS "sky") (fMeth "_state" f_Console__state (vr 0))) aNil)))
def f_Console_sky : List PyData → Option Rs := runP ["self"] h_Console_sky
theorem ok_Console_sky {w : World} (y : Hy K mg base fd k) : FnOk Pg w K mg base (L2.CX Pg w) 2 (A_Console_sky K) (fd 33) ["self"] (spP k 1 f_Console_sky) := by
  have nd := (sc_Console_sky).nd
  refine okP (h := h_Console_sky) [] y.F_Console_sky sc_Console_sky fun cdv A outer s H E F0 H0 hr => ?_
  exact (dss_one (ds_ret (d_call (ok_copied y) (hr.mono (by decide : 1 ≤ 1)) (by rfl) y.m_copied y.F_copied.kp (b_copied y) (da_cons (d_fldS y.cS y.nS_sky (d_meth0 (ok_Console__state y) (d_var (pv 0) (by decide : ¬ 0 ∈ ([] : List Nat))) y.cO y.M__state (hr.mono (by decide : 1 ≤ 1)) (b_Console__state y))) da_nil))))
def h_Console_begun : Dt → Option Out := (stRet (asL (starD (b1 (fldS "begun") (fMeth "_state" f_Console__state (vr 0))))))
def f_Console_begun : List PyData → Option Rs := runP ["self"] h_Console_begun
theorem ok_Console_begun {w : World} (y : Hy K mg base fd k) : FnOk Pg w K mg base (L2.CX Pg w) 2 (A_Console_begun K) (fd 34) ["self"] (spP k 1 f_Console_begun) := by
  have nd := (sc_Console_begun).nd
  refine okP (h := h_Console_begun) [] y.F_Console_begun sc_Console_begun fun cdv A outer s H E F0 H0 hr => ?_
  exact (dss_one (ds_ret (d_ofN (dn_star (d_fldS y.cS y.nS_begun (d_meth0 (ok_Console__state y) (d_var (pv 0) (by decide : ¬ 0 ∈ ([] : List Nat))) y.cO y.M__state (hr.mono (by decide : 1 ≤ 1)) (b_Console__state y)))))))
def h_Console_promises : Dt → Option Out := (stRet (asL (starD (b1 (fldS "promises") (fMeth "_state" f_Console__state (vr 0))))))
def f_Console_promises : List PyData → Option Rs := runP ["self"] h_Console_promises
theorem ok_Console_promises {w : World} (y : Hy K mg base fd k) : FnOk Pg w K mg base (L2.CX Pg w) 2 (A_Console_promises K) (fd 35) ["self"] (spP k 1 f_Console_promises) := by
  have nd := (sc_Console_promises).nd
  refine okP (h := h_Console_promises) [] y.F_Console_promises sc_Console_promises fun cdv A outer s H E F0 H0 hr => ?_
  exact (dss_one (ds_ret (d_ofN (dn_star (d_fldS y.cS y.nS_promises (d_meth0 (ok_Console__state y) (d_var (pv 0) (by decide : ¬ 0 ∈ ([] : List Nat))) y.cO y.M__state (hr.mono (by decide : 1 ≤ 1)) (b_Console__state y)))))))
def h_Console_plan : Dt → Option Out := (stRet (asL (starD (b1 (fldS "plan") (fMeth "_state" f_Console__state (vr 0))))))
def f_Console_plan : List PyData → Option Rs := runP ["self"] h_Console_plan
theorem ok_Console_plan {w : World} (y : Hy K mg base fd k) : FnOk Pg w K mg base (L2.CX Pg w) 2 (A_Console_plan K) (fd 36) ["self"] (spP k 1 f_Console_plan) := by
  have nd := (sc_Console_plan).nd
  refine okP (h := h_Console_plan) [] y.F_Console_plan sc_Console_plan fun cdv A outer s H E F0 H0 hr => ?_
  exact (dss_one (ds_ret (d_ofN (dn_star (d_fldS y.cS y.nS_plan (d_meth0 (ok_Console__state y) (d_var (pv 0) (by decide : ¬ 0 ∈ ([] : List Nat))) y.cO y.M__state (hr.mono (by decide : 1 ≤ 1)) (b_Console__state y)))))))
def h_Console_worth : Dt → Option Out := (stRet (bA (gN 2 f_worth_of) (aCons (b1 (fldS "sky") (fMeth "_state" f_Console__state (vr 0))) (aCons (b1 (fldS "plan") (fMeth "_state" f_Console__state (vr 0))) aNil))))
def f_Console_worth : List PyData → Option Rs := runP ["self"] h_Console_worth
theorem ok_Console_worth {w : World} (y : Hy K mg base fd k) : FnOk Pg w K mg base (L2.CX Pg w) 2 (A_Console_worth K) (fd 37) ["self"] (spP k 1 f_Console_worth) := by
  have nd := (sc_Console_worth).nd
  refine okP (h := h_Console_worth) [] y.F_Console_worth sc_Console_worth fun cdv A outer s H E F0 H0 hr => ?_
  exact (dss_one (ds_ret (d_call (ok_worth_of y) (hr.mono (by decide : 1 ≤ 1)) (by rfl) y.m_worth_of y.F_worth_of.kp (b_worth_of y) (da_cons (d_fldS y.cS y.nS_sky (d_meth0 (ok_Console__state y) (d_var (pv 0) (by decide : ¬ 0 ∈ ([] : List Nat))) y.cO y.M__state (hr.mono (by decide : 1 ≤ 1)) (b_Console__state y))) (da_cons (d_fldS y.cS y.nS_plan (d_meth0 (ok_Console__state y) (d_var (pv 0) (by decide : ¬ 0 ∈ ([] : List Nat))) y.cO y.M__state (hr.mono (by decide : 1 ≤ 1)) (b_Console__state y))) da_nil)))))
def h_Console_now : Dt → Option Out := (stRet (b1 (fldS "time") (fMeth "_state" f_Console__state (vr 0))))
def f_Console_now : List PyData → Option Rs := runP ["self"] h_Console_now
theorem ok_Console_now {w : World} (y : Hy K mg base fd k) : FnOk Pg w K mg base (L2.CX Pg w) 2 (A_Console_now K) (fd 38) ["self"] (spP k 1 f_Console_now) := by
  have nd := (sc_Console_now).nd
  refine okP (h := h_Console_now) [] y.F_Console_now sc_Console_now fun cdv A outer s H E F0 H0 hr => ?_
  exact (dss_one (ds_ret (d_fldS y.cS y.nS_time (d_meth0 (ok_Console__state y) (d_var (pv 0) (by decide : ¬ 0 ∈ ([] : List Nat))) y.cO y.M__state (hr.mono (by decide : 1 ≤ 1)) (b_Console__state y)))))
end
end Sk
set_option Elab.async false
set_option linter.all false
set_option maxRecDepth 100000
set_option maxHeartbeats 4000000
/-! Walks of the program's defs. Printed by walk.py. -/
namespace Sk
open PySem PySem.Spec PyProof.Rows L2 Dl PySem.SkyX
section
variable {K : PySem.W.Frag} {mg : Str → Option Value} {base : Heap} {fd : Nat → FuncData} {k : Cl}
def cp_law_draws_1 : Dt → Option PyData := (lcD [3] (listI (vr 0)) (setD 3) (fun _ => some true) (vr 3))
def lp_law_draws_1 : Dt → Option Out := (sq (stSet 6 (cD (.int 0)))
  (sq (stIf (tB (b2 gtI (bA lenD (aCons (vr 2) aNil)) (cD (.int 0))))
  (sq (stSet 7 (gFlat (b2 modI (bA toI (aCons (vr 5) aNil)) (bA lenD (aCons (vr 2) aNil)))))
  (stIf (tB (b2 geI (b2 ixD (vr 2) (vr 7)) (b2 powI (cD (.int 10)) (cD (.int 18)))))
  (sq (stSet 6 (gFlat (b2 modI (bA toI (aCons (b2 ixD (vr 2) (vr 7)) aNil)) (cD (.int 1000)))))
  (stPut 2 (gFlat (b2 fdivP (b2 ixD (vr 2) (vr 7)) (cD (.int 1000)))) (vr 7)))
  (sq (stSet 8 (gFlat (b2 modI (bA toI (aCons (b2 addI (b2 addI (b2 mulI (b2 ixD (vr 2) (vr 7)) (cD (.int 48271))) (b2 mulI (vr 5) (cD (.int 69621)))) (cD (.int 11))) aNil)) (cD (.int 2147483647)))))
  (sq (stSet 8 (b2 modI (bA toI (aCons (b2 addI (b2 mulI (vr 8) (cD (.int 16807))) (vr 7)) aNil)) (cD (.int 2147483629))))
  (stSet 6 (b2 modI (bA toI (aCons (b2 fdivP (vr 8) (cD (.int 7))) aNil)) (cD (.int 1000))))))))
  stNx)
  (stApp 4 (vr 6))))
def h_law_draws : Dt → Option Out := (sq (stSet 2 (asL cp_law_draws_1))
  (sq (stSet 4 (asL (bA (fun l => (szOk l).map .list) aNil)))
  (sq (stFor (rng1 (aCons (vr 1) aNil)) (setD 5) lp_law_draws_1)
  (stRet (vr 4)))))
def f_law_draws : List PyData → Option Rs := runP ["_law_script", "_law_count", "_law_rests", "_law_cell", "_law_draws_here", "_law_k", "_law_value", "_law_at", "_law_mixed"] h_law_draws
theorem ok_law_draws {w : World} (y : Hy K mg base fd k) : FnOk Pg w K mg base (L2.CX Pg w) 1 (A_law_draws K) (fd 39) ["_law_script", "_law_count"] (spP k 2 f_law_draws) := by
  have nd := (sc_law_draws).nd
  refine okP (h := h_law_draws) [2, 4] y.F_law_draws sc_law_draws fun cdv A outer s H E F0 H0 hr => ?_
  exact (dss_cons (ds_setN (das_lc (i := 2) (own := [("_law_cell", 3)]) rfl nd rfl rfl (sw_true rfl rfl rfl (by decide +kernel)) (di_weak (di_list (d_var (pv 0) (by decide : ¬ 0 ∈ ([2, 4] : List Nat))))) (blkOk_by (N := ["_law_script", "_law_count", "_law_rests", "_law_cell", "_law_draws_here", "_law_k", "_law_value", "_law_at", "_law_mixed"]) (sc := defScope st_law_draws) (by decide +kernel)) (fun _ _ _ _ _ => (dg_name (pg_name nd (i := 3) rfl (Or.inl rfl)) (by decide : ¬ 3 ∈ ([2, 4] : List Nat)))) (fun _ _ _ _ _ => dts_nil) (fun _ _ _ _ _ => (d_var (pv 3) (by decide : ¬ 3 ∈ ([2, 4] : List Nat))))) (by decide : 2 ∈ ([2, 4] : List Nat)) (.inl (by decide)))
    (dss_cons (ds_setN (ps_set nd (i := 4) rfl (Or.inl rfl) (dn_lst da_nil)) (by decide : 4 ∈ ([2, 4] : List Nat)) (.inl (by decide)))
    (dss_cons (ds_for (passes_of rfl) rfl (di_rng1 (by rfl) y.b_range (da_cons (d_var (pv 1) (by decide : ¬ 1 ∈ ([2, 4] : List Nat))) da_nil)) (dg_name (pg_name nd (i := 5) rfl (Or.inl rfl)) (by decide : ¬ 5 ∈ ([2, 4] : List Nat)))
    (dss_cons (ds_set (ps_set nd (i := 6) rfl (Or.inl rfl) d_int) (by decide : ¬ 6 ∈ ([2, 4] : List Nat)))
    (dss_cons (ds_if (dt_frz (dt_cmp op_gt o_gt (d_callB call_len_seq o_len (by rfl) y.b_len (by rfl) (da_cons (d_var (pv 2) (by decide : ¬ 2 ∈ ([] : List Nat))) da_nil)) d_int (nomark _)))
    (dss_cons (ds_set (ps_set nd (i := 7) rfl (Or.inl rfl) (d_frzF (d_op op_mod o_mod (d_callTy call_int1 o_int (by rfl) y.b_int (by rfl) (da_cons (d_var (pv 5) (by decide : ¬ 5 ∈ ([] : List Nat))) da_nil)) (d_callB call_len_seq o_len (by rfl) y.b_len (by rfl) (da_cons (d_var (pv 2) (by decide : ¬ 2 ∈ ([] : List Nat))) da_nil))))) (by decide : ¬ 7 ∈ ([2, 4] : List Nat)))
    (dss_one (ds_if (dt_frz (dt_cmp op_ge o_ge (d_ix ix_seq o_ix (d_var (pv 2) (by decide : ¬ 2 ∈ ([] : List Nat))) (d_var (pv 7) (by decide : ¬ 7 ∈ ([] : List Nat))) fun _ _ => rfl) (d_op op_pow o_pow d_int d_int) (nomark _)))
    (dss_cons (ds_set (ps_set nd (i := 6) rfl (Or.inl rfl) (d_frzF (d_op op_mod o_mod (d_callTy call_int1 o_int (by rfl) y.b_int (by rfl) (da_cons (d_ix ix_seq o_ix (d_var (pv 2) (by decide : ¬ 2 ∈ ([] : List Nat))) (d_var (pv 7) (by decide : ¬ 7 ∈ ([] : List Nat))) fun _ _ => rfl) da_nil)) d_int))) (by decide : ¬ 6 ∈ ([2, 4] : List Nat)))
    (dss_one (ds_put (ps_asg (d_frzF (d_op op_fdiv o_fdivP (d_ix ix_seq o_ix (d_var (pv 2) (by decide : ¬ 2 ∈ ([] : List Nat))) (d_var (pv 7) (by decide : ¬ 7 ∈ ([] : List Nat))) fun _ _ => rfl) d_int)) (pg_sub (pv 2) (d_var (pv 7) (by decide : ¬ 7 ∈ ([2, 4] : List Nat))) set_list)) (by decide : 2 ∈ ([2, 4] : List Nat)))))
    (dss_cons (ds_set (ps_set nd (i := 8) rfl (Or.inl rfl) (d_frzF (d_op op_mod o_mod (d_callTy call_int1 o_int (by rfl) y.b_int (by rfl) (da_cons (d_op op_add o_add (d_op op_add o_add (d_op op_mul o_mul (d_ix ix_seq o_ix (d_var (pv 2) (by decide : ¬ 2 ∈ ([] : List Nat))) (d_var (pv 7) (by decide : ¬ 7 ∈ ([] : List Nat))) fun _ _ => rfl) d_int) (d_op op_mul o_mul (d_var (pv 5) (by decide : ¬ 5 ∈ ([] : List Nat))) d_int)) d_int) da_nil)) d_int))) (by decide : ¬ 8 ∈ ([2, 4] : List Nat)))
    (dss_cons (ds_set (ps_set nd (i := 8) rfl (Or.inl rfl) (d_op op_mod o_mod (d_callTy call_int1 o_int (by rfl) y.b_int (by rfl) (da_cons (d_op op_add o_add (d_op op_mul o_mul (d_var (pv 8) (by decide : ¬ 8 ∈ ([2, 4] : List Nat))) d_int) (d_var (pv 7) (by decide : ¬ 7 ∈ ([2, 4] : List Nat)))) da_nil)) d_int)) (by decide : ¬ 8 ∈ ([2, 4] : List Nat)))
    (dss_one (ds_set (ps_set nd (i := 6) rfl (Or.inl rfl) (d_op op_mod o_mod (d_callTy call_int1 o_int (by rfl) y.b_int (by rfl) (da_cons (d_op op_fdiv o_fdivP (d_var (pv 8) (by decide : ¬ 8 ∈ ([2, 4] : List Nat))) d_int) da_nil)) d_int)) (by decide : ¬ 6 ∈ ([2, 4] : List Nat)))))))))
    dss_nil)
    (dss_one (ds_app (ps_expr (pe_bm PySem.F.plainAttrs_list PySem.F.slot_list_append PySem.F.type_list_append mt_append (pv 4) (pa_cons (d_var (pv 6) (by decide : ¬ 6 ∈ ([2, 4] : List Nat))) pa_nil))) (by decide : 4 ∈ ([2, 4] : List Nat)))))) (by decide : ∀ j ∈ ([5] : List Nat), j ∉ ([2, 4] : List Nat)))
    (dss_one (ds_retZ rfl (d_var (pv 4) (by decide : ¬ 4 ∈ ([] : List Nat))))))))
def cp_law_sky_1 : Dt → Option PyData := (lcD [4] (rng1 (aCons (vr 2) aNil)) (setD 4) (fun _ => some true) (b2 modI (bA toI (aCons (b2 ixD (vr 0) (b2 addI (cD (.int 1)) (vr 4))) aNil)) (cD (.int 10))))
def lp_law_sky_1 : Dt → Option Out := (sq (stSet 7 (b2 addI (vr 6) (b2 modI (bA toI (aCons (b2 ixD (vr 0) (b2 addI (cD (.int 10)) (b2 mulI (cD (.int 3)) (vr 4)))) aNil)) (cD (.int 6)))))
  (sq (stSet 6 (b2 addI (b2 addI (vr 7) (cD (.int 1))) (b2 modI (bA toI (aCons (b2 ixD (vr 0) (b2 addI (cD (.int 11)) (b2 mulI (cD (.int 3)) (vr 4)))) aNil)) (cD (.int 5)))))
  (stApp 5 (bA (fun l => (szOk l).map .tuple) (aCons (vr 7) (aCons (vr 6) (aCons (b2 addI (cD (.int 1)) (b2 modI (bA toI (aCons (b2 ixD (vr 0) (b2 addI (cD (.int 12)) (b2 mulI (cD (.int 3)) (vr 4)))) aNil)) (cD (.int 3)))) aNil)))))))
def lp_law_sky_2 : Dt → Option Out := (sq (stSet 9 (b2 addI (vr 9) (b2 modI (bA toI (aCons (b2 ixD (vr 0) (b2 addI (cD (.int 20)) (b2 mulI (cD (.int 5)) (vr 4)))) aNil)) (cD (.int 4)))))
  (sq (stSet 10 (b2 subI (b2 modI (bA toI (aCons (b2 ixD (vr 0) (b2 addI (cD (.int 23)) (b2 mulI (cD (.int 5)) (vr 4)))) aNil)) (cD (.int 61))) (cD (.int 30))))
  (stApp 8 (bA (fun l => (szOk l).map .tuple) (aCons (b2 modI (bA toI (aCons (b2 ixD (vr 0) (b2 addI (cD (.int 21)) (b2 mulI (cD (.int 5)) (vr 4)))) aNil)) (vr 2)) (aCons (vr 9) (aCons (b2 addI (cD (.int 1)) (b2 modI (bA toI (aCons (b2 ixD (vr 0) (b2 addI (cD (.int 22)) (b2 mulI (cD (.int 5)) (vr 4)))) aNil)) (cD (.int 3)))) (aCons (vr 10) (aCons (b2 addI (cD (.int 1)) (b2 modI (bA toI (aCons (b2 ixD (vr 0) (b2 addI (cD (.int 24)) (b2 mulI (cD (.int 5)) (vr 4)))) aNil)) (cD (.int 4)))) aNil)))))))))
def h_law_sky : Dt → Option Out := (sq (stSet 2 (b2 addI (cD (.int 1)) (b2 modI (bA toI (aCons (b2 ixD (vr 0) (cD (.int 0))) aNil)) (cD (.int 4)))))
  (sq (stSet 3 (asL cp_law_sky_1))
  (sq (stSet 5 (asL (bA (fun l => (szOk l).map .list) aNil)))
  (sq (stSet 6 (cD (.int 0)))
  (sq (stFor (rng1 (aCons (b2 modI (bA toI (aCons (b2 ixD (vr 0) (cD (.int 9))) aNil)) (cD (.int 3))) aNil)) (setD 4) lp_law_sky_1)
  (sq (stSet 8 (asL (bA (fun l => (szOk l).map .list) aNil)))
  (sq (stSet 9 (cD (.int 0)))
  (sq (stFor (rng1 (aCons (b2 modI (bA toI (aCons (b2 ixD (vr 0) (cD (.int 16))) aNil)) (b2 addI (vr 1) (cD (.int 1)))) aNil)) (setD 4) lp_law_sky_2)
  (stRet (bA (fun l => (szOk l).map .tuple) (aCons (vr 8) (aCons (vr 3) (aCons (vr 5) (aCons (b2 addI (cD (.int 2)) (b2 modI (bA toI (aCons (b2 ixD (vr 0) (cD (.int 7))) aNil)) (cD (.int 7)))) (aCons (b2 addI (cD (.int 1)) (b2 modI (bA toI (aCons (b2 ixD (vr 0) (cD (.int 8))) aNil)) (cD (.int 30)))) aNil)))))))))))))))
def f_law_sky : List PyData → Option Rs := runP ["_law_draws_here", "_law_most", "_law_wishes", "_law_worths", "_law_k", "_law_ears", "_law_since", "_law_first", "_law_looks", "_law_start", "_law_angle"] h_law_sky
theorem ok_law_sky {w : World} (y : Hy K mg base fd k) : FnOk Pg w K mg base (L2.CX Pg w) 1 (A_law_sky K) (fd 40) ["_law_draws_here", "_law_most"] (spP k 2 f_law_sky) := by
  have nd := (sc_law_sky).nd
  refine okP (h := h_law_sky) [5, 8] y.F_law_sky sc_law_sky fun cdv A outer s H E F0 H0 hr => ?_
  exact (dss_cons (ds_set (ps_set nd (i := 2) rfl (Or.inl rfl) (d_op op_add o_add d_int (d_op op_mod o_mod (d_callTy call_int1 o_int (by rfl) y.b_int (by rfl) (da_cons (d_ix ix_seq o_ix (d_var (pv 0) (by decide : ¬ 0 ∈ ([5, 8] : List Nat))) d_int fun _ _ => rfl) da_nil)) d_int))) (by decide : ¬ 2 ∈ ([5, 8] : List Nat)))
    (dss_cons (ds_set (das_ofN (das_lc (i := 3) (own := [("_law_k", 4)]) rfl nd rfl rfl (sw_true rfl rfl rfl (by decide +kernel)) (di_weak (di_rng1 (by rfl) y.b_range (da_cons (d_var (pv 2) (by decide : ¬ 2 ∈ ([5, 8] : List Nat))) da_nil))) (blkOk_by (N := ["_law_draws_here", "_law_most", "_law_wishes", "_law_worths", "_law_k", "_law_ears", "_law_since", "_law_first", "_law_looks", "_law_start", "_law_angle"]) (sc := defScope st_law_sky) (by decide +kernel)) (fun _ _ _ _ _ => (dg_name (pg_name nd (i := 4) rfl (Or.inl rfl)) (by decide : ¬ 4 ∈ ([5, 8] : List Nat)))) (fun _ _ _ _ _ => dts_nil) (fun _ _ _ _ _ => (d_op op_mod o_mod (d_callTy call_int1 o_int (by rfl) y.b_int (by rfl) (da_cons (d_ix ix_seq o_ix (d_var (pv 0) (by decide : ¬ 0 ∈ ([5, 8] : List Nat))) (d_op op_add o_add d_int (d_var (pv 4) (by decide : ¬ 4 ∈ ([5, 8] : List Nat)))) fun _ _ => rfl) da_nil)) d_int)))) (by decide : ¬ 3 ∈ ([5, 8] : List Nat)))
    (dss_cons (ds_setN (ps_set nd (i := 5) rfl (Or.inl rfl) (dn_lst da_nil)) (by decide : 5 ∈ ([5, 8] : List Nat)) (.inl (by decide)))
    (dss_cons (ds_set (ps_set nd (i := 6) rfl (Or.inl rfl) d_int) (by decide : ¬ 6 ∈ ([5, 8] : List Nat)))
    (dss_cons (ds_for (passes_of rfl) rfl (di_rng1 (by rfl) y.b_range (da_cons (d_op op_mod o_mod (d_callTy call_int1 o_int (by rfl) y.b_int (by rfl) (da_cons (d_ix ix_seq o_ix (d_var (pv 0) (by decide : ¬ 0 ∈ ([5, 8] : List Nat))) d_int fun _ _ => rfl) da_nil)) d_int) da_nil)) (dg_name (pg_name nd (i := 4) rfl (Or.inl rfl)) (by decide : ¬ 4 ∈ ([5, 8] : List Nat)))
    (dss_cons (ds_set (ps_set nd (i := 7) rfl (Or.inl rfl) (d_op op_add o_add (d_var (pv 6) (by decide : ¬ 6 ∈ ([5, 8] : List Nat))) (d_op op_mod o_mod (d_callTy call_int1 o_int (by rfl) y.b_int (by rfl) (da_cons (d_ix ix_seq o_ix (d_var (pv 0) (by decide : ¬ 0 ∈ ([5, 8] : List Nat))) (d_op op_add o_add d_int (d_op op_mul o_mul d_int (d_var (pv 4) (by decide : ¬ 4 ∈ ([5, 8] : List Nat))))) fun _ _ => rfl) da_nil)) d_int))) (by decide : ¬ 7 ∈ ([5, 8] : List Nat)))
    (dss_cons (ds_set (ps_set nd (i := 6) rfl (Or.inl rfl) (d_op op_add o_add (d_op op_add o_add (d_var (pv 7) (by decide : ¬ 7 ∈ ([5, 8] : List Nat))) d_int) (d_op op_mod o_mod (d_callTy call_int1 o_int (by rfl) y.b_int (by rfl) (da_cons (d_ix ix_seq o_ix (d_var (pv 0) (by decide : ¬ 0 ∈ ([5, 8] : List Nat))) (d_op op_add o_add d_int (d_op op_mul o_mul d_int (d_var (pv 4) (by decide : ¬ 4 ∈ ([5, 8] : List Nat))))) fun _ _ => rfl) da_nil)) d_int))) (by decide : ¬ 6 ∈ ([5, 8] : List Nat)))
    (dss_one (ds_app (ps_expr (pe_bm PySem.F.plainAttrs_list PySem.F.slot_list_append PySem.F.type_list_append mt_append (pv 5) (pa_cons (d_tup (da_cons (d_var (pv 7) (by decide : ¬ 7 ∈ ([5, 8] : List Nat))) (da_cons (d_var (pv 6) (by decide : ¬ 6 ∈ ([5, 8] : List Nat))) (da_cons (d_op op_add o_add d_int (d_op op_mod o_mod (d_callTy call_int1 o_int (by rfl) y.b_int (by rfl) (da_cons (d_ix ix_seq o_ix (d_var (pv 0) (by decide : ¬ 0 ∈ ([5, 8] : List Nat))) (d_op op_add o_add d_int (d_op op_mul o_mul d_int (d_var (pv 4) (by decide : ¬ 4 ∈ ([5, 8] : List Nat))))) fun _ _ => rfl) da_nil)) d_int)) da_nil)))) pa_nil))) (by decide : 5 ∈ ([5, 8] : List Nat)))))) (by decide : ∀ j ∈ ([4] : List Nat), j ∉ ([5, 8] : List Nat)))
    (dss_cons (ds_setN (ps_set nd (i := 8) rfl (Or.inl rfl) (dn_lst da_nil)) (by decide : 8 ∈ ([5, 8] : List Nat)) (.inl (by decide)))
    (dss_cons (ds_set (ps_set nd (i := 9) rfl (Or.inl rfl) d_int) (by decide : ¬ 9 ∈ ([5, 8] : List Nat)))
    (dss_cons (ds_for (passes_of rfl) rfl (di_rng1 (by rfl) y.b_range (da_cons (d_op op_mod o_mod (d_callTy call_int1 o_int (by rfl) y.b_int (by rfl) (da_cons (d_ix ix_seq o_ix (d_var (pv 0) (by decide : ¬ 0 ∈ ([5, 8] : List Nat))) d_int fun _ _ => rfl) da_nil)) (d_op op_add o_add (d_var (pv 1) (by decide : ¬ 1 ∈ ([5, 8] : List Nat))) d_int)) da_nil)) (dg_name (pg_name nd (i := 4) rfl (Or.inl rfl)) (by decide : ¬ 4 ∈ ([5, 8] : List Nat)))
    (dss_cons (ds_set (ps_set nd (i := 9) rfl (Or.inl rfl) (d_op op_add o_add (d_var (pv 9) (by decide : ¬ 9 ∈ ([5, 8] : List Nat))) (d_op op_mod o_mod (d_callTy call_int1 o_int (by rfl) y.b_int (by rfl) (da_cons (d_ix ix_seq o_ix (d_var (pv 0) (by decide : ¬ 0 ∈ ([5, 8] : List Nat))) (d_op op_add o_add d_int (d_op op_mul o_mul d_int (d_var (pv 4) (by decide : ¬ 4 ∈ ([5, 8] : List Nat))))) fun _ _ => rfl) da_nil)) d_int))) (by decide : ¬ 9 ∈ ([5, 8] : List Nat)))
    (dss_cons (ds_set (ps_set nd (i := 10) rfl (Or.inl rfl) (d_op op_sub o_sub (d_op op_mod o_mod (d_callTy call_int1 o_int (by rfl) y.b_int (by rfl) (da_cons (d_ix ix_seq o_ix (d_var (pv 0) (by decide : ¬ 0 ∈ ([5, 8] : List Nat))) (d_op op_add o_add d_int (d_op op_mul o_mul d_int (d_var (pv 4) (by decide : ¬ 4 ∈ ([5, 8] : List Nat))))) fun _ _ => rfl) da_nil)) d_int) d_int)) (by decide : ¬ 10 ∈ ([5, 8] : List Nat)))
    (dss_one (ds_app (ps_expr (pe_bm PySem.F.plainAttrs_list PySem.F.slot_list_append PySem.F.type_list_append mt_append (pv 8) (pa_cons (d_tup (da_cons (d_op op_mod o_mod (d_callTy call_int1 o_int (by rfl) y.b_int (by rfl) (da_cons (d_ix ix_seq o_ix (d_var (pv 0) (by decide : ¬ 0 ∈ ([5, 8] : List Nat))) (d_op op_add o_add d_int (d_op op_mul o_mul d_int (d_var (pv 4) (by decide : ¬ 4 ∈ ([5, 8] : List Nat))))) fun _ _ => rfl) da_nil)) (d_var (pv 2) (by decide : ¬ 2 ∈ ([5, 8] : List Nat)))) (da_cons (d_var (pv 9) (by decide : ¬ 9 ∈ ([5, 8] : List Nat))) (da_cons (d_op op_add o_add d_int (d_op op_mod o_mod (d_callTy call_int1 o_int (by rfl) y.b_int (by rfl) (da_cons (d_ix ix_seq o_ix (d_var (pv 0) (by decide : ¬ 0 ∈ ([5, 8] : List Nat))) (d_op op_add o_add d_int (d_op op_mul o_mul d_int (d_var (pv 4) (by decide : ¬ 4 ∈ ([5, 8] : List Nat))))) fun _ _ => rfl) da_nil)) d_int)) (da_cons (d_var (pv 10) (by decide : ¬ 10 ∈ ([5, 8] : List Nat))) (da_cons (d_op op_add o_add d_int (d_op op_mod o_mod (d_callTy call_int1 o_int (by rfl) y.b_int (by rfl) (da_cons (d_ix ix_seq o_ix (d_var (pv 0) (by decide : ¬ 0 ∈ ([5, 8] : List Nat))) (d_op op_add o_add d_int (d_op op_mul o_mul d_int (d_var (pv 4) (by decide : ¬ 4 ∈ ([5, 8] : List Nat))))) fun _ _ => rfl) da_nil)) d_int)) da_nil)))))) pa_nil))) (by decide : 8 ∈ ([5, 8] : List Nat)))))) (by decide : ∀ j ∈ ([4] : List Nat), j ∉ ([5, 8] : List Nat)))
    (dss_one (ds_retZ rfl (d_tup (da_cons (d_var (pv 8) (by decide : ¬ 8 ∈ ([] : List Nat))) (da_cons (d_var (pv 3) (by decide : ¬ 3 ∈ ([] : List Nat))) (da_cons (d_var (pv 5) (by decide : ¬ 5 ∈ ([] : List Nat))) (da_cons (d_op op_add o_add d_int (d_op op_mod o_mod (d_callTy call_int1 o_int (by rfl) y.b_int (by rfl) (da_cons (d_ix ix_seq o_ix (d_var (pv 0) (by decide : ¬ 0 ∈ ([] : List Nat))) d_int fun _ _ => rfl) da_nil)) d_int)) (da_cons (d_op op_add o_add d_int (d_op op_mod o_mod (d_callTy call_int1 o_int (by rfl) y.b_int (by rfl) (da_cons (d_ix ix_seq o_ix (d_var (pv 0) (by decide : ¬ 0 ∈ ([] : List Nat))) d_int fun _ _ => rfl) da_nil)) d_int)) da_nil))))))))))))))))
def lp_law_turn_1 : Dt → Option Out := (sq (stIf (tB (b2 geI (b2 mulI (vr 3) (b2 ixD (vr 0) (cD (.int 4)))) (bA absI (aCons (b2 subI (b2 ixD (b2 ixD (b2 ixD (vr 0) (cD (.int 0))) (vr 2)) (cD (.int 3))) (b2 ixD (b2 ixD (b2 ixD (vr 0) (cD (.int 0))) (vr 1)) (cD (.int 3)))) aNil))))
  stBk
  stNx)
  (stSet 3 (b2 addI (vr 3) (cD (.int 1)))))
def h_law_turn : Dt → Option Out := (sq (stSet 3 (cD (.int 0)))
  (sq (stFor (rng1 (aCons (cD (.int 200)) aNil)) (setD 4) lp_law_turn_1)
  (stRet (vr 3))))
def f_law_turn : List PyData → Option Rs := runP ["_law_sky_here", "_law_first", "_law_second", "_law_ticks", "_law_turn_here"] h_law_turn
theorem ok_law_turn {w : World} (y : Hy K mg base fd k) : FnOk Pg w K mg base (L2.CX Pg w) 1 (A_law_turn K) (fd 41) ["_law_sky_here", "_law_first", "_law_second"] (spP k 3 f_law_turn) := by
  have nd := (sc_law_turn).nd
  refine okP (h := h_law_turn) [] y.F_law_turn sc_law_turn fun cdv A outer s H E F0 H0 hr => ?_
  exact (dss_cons (ds_set (ps_set nd (i := 3) rfl (Or.inl rfl) d_int) (by decide : ¬ 3 ∈ ([] : List Nat)))
    (dss_cons (ds_for (passes_of rfl) rfl (di_rng1 (by rfl) y.b_range (da_cons d_int da_nil)) (dg_name (pg_name nd (i := 4) rfl (Or.inl rfl)) (by decide : ¬ 4 ∈ ([] : List Nat)))
    (dss_cons (ds_if (dt_cmp op_ge o_ge (d_op op_mul o_mul (d_var (pv 3) (by decide : ¬ 3 ∈ ([] : List Nat))) (d_ix ix_seq o_ix (d_var (pv 0) (by decide : ¬ 0 ∈ ([] : List Nat))) d_int fun _ _ => rfl)) (d_callB call_abs o_abs (by rfl) y.b_abs (by rfl) (da_cons (d_op op_sub o_sub (d_ix ix_seq o_ix (d_ix ix_seq o_ix (d_ix ix_seq o_ix (d_var (pv 0) (by decide : ¬ 0 ∈ ([] : List Nat))) d_int fun _ _ => rfl) (d_var (pv 2) (by decide : ¬ 2 ∈ ([] : List Nat))) fun _ _ => rfl) d_int fun _ _ => rfl) (d_ix ix_seq o_ix (d_ix ix_seq o_ix (d_ix ix_seq o_ix (d_var (pv 0) (by decide : ¬ 0 ∈ ([] : List Nat))) d_int fun _ _ => rfl) (d_var (pv 1) (by decide : ¬ 1 ∈ ([] : List Nat))) fun _ _ => rfl) d_int fun _ _ => rfl)) da_nil)) (nomark _))
    (dss_one ds_break)
    dss_nil)
    (dss_one (ds_set (ps_set nd (i := 3) rfl (Or.inl rfl) (d_op op_add o_add (d_var (pv 3) (by decide : ¬ 3 ∈ ([] : List Nat))) d_int)) (by decide : ¬ 3 ∈ ([] : List Nat))))) (by decide : ∀ j ∈ ([4] : List Nat), j ∉ ([] : List Nat)))
    (dss_one (ds_ret (d_var (pv 3) (by decide : ¬ 3 ∈ ([] : List Nat)))))))
def cp_law_worth_1 : Dt → Option PyData := (lcD [3] (listI (vr 1)) (setD 3) (fun _ => some true) (b2 ixD (b2 ixD (b2 ixD (vr 0) (cD (.int 0))) (vr 3)) (cD (.int 0))))
def cp_law_worth_2 : Dt → Option PyData := (lcD [4] (rng1 (aCons (bA lenD (aCons (b2 ixD (vr 0) (cD (.int 1))) aNil)) aNil)) (setD 4) (tB (b2 inD (vr 4) (vr 2))) (b2 ixD (b2 ixD (vr 0) (cD (.int 1))) (vr 4)))
def h_law_worth : Dt → Option Out := (sq (stSet 2 (asL cp_law_worth_1))
  (stRet (bA sumD (aCons (asL cp_law_worth_2) aNil))))
def f_law_worth : List PyData → Option Rs := runP ["_law_sky_here", "_law_names", "_law_wishes", "_law_name", "_law_wish"] h_law_worth
theorem ok_law_worth {w : World} (y : Hy K mg base fd k) : FnOk Pg w K mg base (L2.CX Pg w) 1 (A_law_worth K) (fd 42) ["_law_sky_here", "_law_names"] (spP k 2 f_law_worth) := by
  have nd := (sc_law_worth).nd
  refine okP (h := h_law_worth) [] y.F_law_worth sc_law_worth fun cdv A outer s H E F0 H0 hr => ?_
  exact (dss_cons (ds_set (ps_set nd (i := 2) rfl (Or.inr rfl) (d_ofN (dn_lc (own := [("_law_name", 3)]) rfl nd (di_weak (di_list (d_var (pv 1) (by decide : ¬ 1 ∈ ([] : List Nat))))) (blkOk_by (N := ["_law_sky_here", "_law_names", "_law_wishes", "_law_name", "_law_wish"]) (sc := defScope st_law_worth) (by decide +kernel)) (fun _ _ _ _ _ => (dg_name (pg_name nd (i := 3) rfl (Or.inl rfl)) (by decide : ¬ 3 ∈ ([] : List Nat)))) (fun _ _ _ _ _ => dts_nil) (fun _ _ _ _ _ => (d_ix ix_seq o_ix (d_ix ix_seq o_ix (d_ix ix_seq o_ix (d_var (pv 0) (by decide : ¬ 0 ∈ ([] : List Nat))) d_int fun _ _ => rfl) (d_var (pv 3) (by decide : ¬ 3 ∈ ([] : List Nat))) fun _ _ => rfl) d_int fun _ _ => rfl))))) (by decide : ¬ 2 ∈ ([] : List Nat)))
    (dss_one (ds_ret (d_callB (cr_sum rfl) o_sum (by rfl) y.b_sum (by rfl) (da_cons (d_ofN (dn_lc (own := [("_law_wish", 4)]) rfl nd (di_weak (di_rng1 (by rfl) y.b_range (da_cons (d_callB call_len_seq o_len (by rfl) y.b_len (by rfl) (da_cons (d_ix ix_seq o_ix (d_var (pv 0) (by decide : ¬ 0 ∈ ([] : List Nat))) d_int fun _ _ => rfl) da_nil)) da_nil))) (blkOk_by (N := ["_law_sky_here", "_law_names", "_law_wishes", "_law_name", "_law_wish"]) (sc := defScope st_law_worth) (by decide +kernel)) (fun _ _ _ _ _ => (dg_name (pg_name nd (i := 4) rfl (Or.inl rfl)) (by decide : ¬ 4 ∈ ([] : List Nat)))) (fun _ _ _ _ _ => dts_one (dt_cmp (op_inD (u65 hr)) o_inD (d_var (pv 4) (by decide : ¬ 4 ∈ ([] : List Nat))) (d_var (pv 2) (by decide : ¬ 2 ∈ ([] : List Nat))) rfl)) (fun _ _ _ _ _ => (d_ix ix_seq o_ix (d_ix ix_seq o_ix (d_var (pv 0) (by decide : ¬ 0 ∈ ([] : List Nat))) d_int fun _ _ => rfl) (d_var (pv 4) (by decide : ¬ 4 ∈ ([] : List Nat))) fun _ _ => rfl)))) da_nil)))))
def cp_law_loss_1 : Dt → Option PyData := (lcD [3, 4, 5] (listI (b2 ixD (vr 0) (cD (.int 2)))) (gT 3 (gsCons (setD 3) (gsCons (setD 4) (gsCons (setD 5) gsNil)))) (fun _ => some true) (b2 mulI (vr 5) (bA max2 (aCons (cD (.int 0)) (aCons (b2 subI (bA min2 (aCons (vr 2) (aCons (vr 4) aNil))) (bA max2 (aCons (vr 1) (aCons (vr 3) aNil)))) aNil)))))
def h_law_loss : Dt → Option Out := (stRet (bA sumD (aCons (asL cp_law_loss_1) aNil)))
def f_law_loss : List PyData → Option Rs := runP ["_law_sky_here", "_law_since", "_law_until", "_law_first", "_law_last", "_law_rate"] h_law_loss
theorem ok_law_loss {w : World} (y : Hy K mg base fd k) : FnOk Pg w K mg base (L2.CX Pg w) 1 (A_law_loss K) (fd 43) ["_law_sky_here", "_law_since", "_law_until"] (spP k 3 f_law_loss) := by
  have nd := (sc_law_loss).nd
  refine okP (h := h_law_loss) [] y.F_law_loss sc_law_loss fun cdv A outer s H E F0 H0 hr => ?_
  exact (dss_one (ds_ret (d_callB (cr_sum rfl) o_sum (by rfl) y.b_sum (by rfl) (da_cons (d_ofN (dn_lc (own := [("_law_first", 3), ("_law_last", 4), ("_law_rate", 5)]) rfl nd (di_weak (di_list (d_ix ix_seq o_ix (d_var (pv 0) (by decide : ¬ 0 ∈ ([] : List Nat))) d_int fun _ _ => rfl))) (blkOk_by (N := ["_law_sky_here", "_law_since", "_law_until", "_law_first", "_law_last", "_law_rate"]) (sc := defScope st_law_loss) (by decide +kernel)) (fun _ _ _ _ _ => (dg_tup rfl (dgs_cons (dg_name (pg_name nd (i := 3) rfl (Or.inl rfl)) (by decide : ¬ 3 ∈ ([] : List Nat))) (dgs_cons (dg_name (pg_name nd (i := 4) rfl (Or.inl rfl)) (by decide : ¬ 4 ∈ ([] : List Nat))) (dgs_cons (dg_name (pg_name nd (i := 5) rfl (Or.inl rfl)) (by decide : ¬ 5 ∈ ([] : List Nat))) dgs_nil))))) (fun _ _ _ _ _ => dts_nil) (fun _ _ _ _ _ => (d_op op_mul o_mul (d_var (pv 5) (by decide : ¬ 5 ∈ ([] : List Nat))) (d_callB (call_max2 rfl) o_max2 (by rfl) y.b_max (by rfl) (da_cons d_int (da_cons (d_op op_sub o_sub (d_callB (call_min2 rfl) o_min2 (by rfl) y.b_min (by rfl) (da_cons (d_var (pv 2) (by decide : ¬ 2 ∈ ([] : List Nat))) (da_cons (d_var (pv 4) (by decide : ¬ 4 ∈ ([] : List Nat))) da_nil))) (d_callB (call_max2 rfl) o_max2 (by rfl) y.b_max (by rfl) (da_cons (d_var (pv 1) (by decide : ¬ 1 ∈ ([] : List Nat))) (da_cons (d_var (pv 3) (by decide : ¬ 3 ∈ ([] : List Nat))) da_nil)))) da_nil))))))) da_nil))))
def cp_law_level_1 : Dt → Option PyData := (lcD [11] (listI (vr 1)) (setD 11) (fun _ => some true) (b2 ixD (b2 ixD (b2 ixD (vr 0) (cD (.int 0))) (vr 11)) (cD (.int 0))))
def h_law_level : Dt → Option Out := (sq (stG (b2 ixD (b2 ixD (vr 0) (cD (.int 0))) (vr 3)) (gT 5 (gsCons (setD 4) (gsCons (setD 5) (gsCons (setD 6) (gsCons (setD 7) (gsCons (setD 8) gsNil)))))))
  (sq (stSet 9 (cD (.int 0)))
  (sq (stIf (tB (b2 gtI (bA lenD (aCons (vr 1) aNil)) (cD (.int 0))))
  (sq (stSet 10 (b2 ixD (b2 ixD (vr 0) (cD (.int 0))) (b2 ixD (vr 1) (b1 negI (cD (.int 1))))))
  (sq (stSet 9 (b2 addI (b2 ixD (vr 10) (cD (.int 1))) (b2 ixD (vr 10) (cD (.int 2)))))
  (stIf (tOrD (tB (b2 ltI (vr 5) (b2 addI (vr 9) (bA (gN 3 f_law_turn) (aCons (vr 0) (aCons (b2 ixD (vr 1) (b1 negI (cD (.int 1)))) (aCons (vr 3) aNil))))))) (tB (b2 inD (vr 4) (asL cp_law_level_1))))
  (stRet (cD .none))
  stNx)))
  stNx)
  (sq (stSet 2 (bA max2 (aCons (cD (.int 0)) (aCons (b2 subI (vr 2) (bA (gN 3 f_law_loss) (aCons (vr 0) (aCons (vr 9) (aCons (vr 5) aNil))))) aNil))))
  (sq (stIf (tB (b2 gtI (b2 addI (vr 2) (vr 8)) (b2 ixD (vr 0) (cD (.int 3)))))
  (stRet (cD .none))
  stNx)
  (stRet (b2 addI (bA max2 (aCons (cD (.int 0)) (aCons (b2 subI (vr 2) (bA (gN 3 f_law_loss) (aCons (vr 0) (aCons (vr 5) (aCons (b2 addI (vr 5) (vr 6)) aNil))))) aNil))) (vr 8))))))))
def f_law_level : List PyData → Option Rs := runP ["_law_sky_here", "_law_names", "_law_store", "_law_name", "_law_wish", "_law_start", "_law_length", "_law_angle", "_law_size", "_law_since", "_law_last", "_law_one"] h_law_level
theorem ok_law_level {w : World} (y : Hy K mg base fd k) : FnOk Pg w K mg base (L2.CX Pg w) 2 (A_law_level K) (fd 44) ["_law_sky_here", "_law_names", "_law_store", "_law_name"] (spP k 4 f_law_level) := by
  have nd := (sc_law_level).nd
  refine okP (h := h_law_level) [] y.F_law_level sc_law_level fun cdv A outer s H E F0 H0 hr => ?_
  exact (dss_cons (ds_G (ps_asg (d_ix ix_seq o_ix (d_ix ix_seq o_ix (d_var (pv 0) (by decide : ¬ 0 ∈ ([] : List Nat))) d_int fun _ _ => rfl) (d_var (pv 3) (by decide : ¬ 3 ∈ ([] : List Nat))) fun _ _ => rfl) (dg_tup rfl (dgs_cons (dg_name (pg_name nd (i := 4) rfl (Or.inl rfl)) (by decide : ¬ 4 ∈ ([] : List Nat))) (dgs_cons (dg_name (pg_name nd (i := 5) rfl (Or.inl rfl)) (by decide : ¬ 5 ∈ ([] : List Nat))) (dgs_cons (dg_name (pg_name nd (i := 6) rfl (Or.inl rfl)) (by decide : ¬ 6 ∈ ([] : List Nat))) (dgs_cons (dg_name (pg_name nd (i := 7) rfl (Or.inl rfl)) (by decide : ¬ 7 ∈ ([] : List Nat))) (dgs_cons (dg_name (pg_name nd (i := 8) rfl (Or.inl rfl)) (by decide : ¬ 8 ∈ ([] : List Nat))) dgs_nil))))))) (by decide : ∀ j ∈ ([4, 5, 6, 7, 8] : List Nat), j ∉ ([] : List Nat)))
    (dss_cons (ds_set (ps_set nd (i := 9) rfl (Or.inl rfl) d_int) (by decide : ¬ 9 ∈ ([] : List Nat)))
    (dss_cons (ds_if (dt_cmp op_gt o_gt (d_callB call_len_seq o_len (by rfl) y.b_len (by rfl) (da_cons (d_var (pv 1) (by decide : ¬ 1 ∈ ([] : List Nat))) da_nil)) d_int (nomark _))
    (dss_cons (ds_set (ps_set nd (i := 10) rfl (Or.inl rfl) (d_ix ix_seq o_ix (d_ix ix_seq o_ix (d_var (pv 0) (by decide : ¬ 0 ∈ ([] : List Nat))) d_int fun _ _ => rfl) (d_ix ix_seq o_ix (d_var (pv 1) (by decide : ¬ 1 ∈ ([] : List Nat))) (d_un un_neg o_neg d_int) fun _ _ => rfl) fun _ _ => rfl)) (by decide : ¬ 10 ∈ ([] : List Nat)))
    (dss_cons (ds_set (ps_set nd (i := 9) rfl (Or.inl rfl) (d_op op_add o_add (d_ix ix_seq o_ix (d_var (pv 10) (by decide : ¬ 10 ∈ ([] : List Nat))) d_int fun _ _ => rfl) (d_ix ix_seq o_ix (d_var (pv 10) (by decide : ¬ 10 ∈ ([] : List Nat))) d_int fun _ _ => rfl))) (by decide : ¬ 9 ∈ ([] : List Nat)))
    (dss_one (ds_if (PW.pt (dw_or (dt_cmp op_lt o_lt (d_var (pv 5) (by decide : ¬ 5 ∈ ([] : List Nat))) (d_op op_add o_add (d_var (pv 9) (by decide : ¬ 9 ∈ ([] : List Nat))) (d_call (ok_law_turn y) (hr.mono (by decide : 1 ≤ 1)) (by rfl) y.m_law_turn y.F_law_turn.kp (b_law_turn y) (da_cons (d_var (pv 0) (by decide : ¬ 0 ∈ ([] : List Nat))) (da_cons (d_ix ix_seq o_ix (d_var (pv 1) (by decide : ¬ 1 ∈ ([] : List Nat))) (d_un un_neg o_neg d_int) fun _ _ => rfl) (da_cons (d_var (pv 3) (by decide : ¬ 3 ∈ ([] : List Nat))) da_nil))))) (nomark _)) (dw_or1 (dt_cmp (op_inD (u65 hr)) o_inD (d_var (pv 4) (by decide : ¬ 4 ∈ ([] : List Nat))) (d_ofN (dn_lc (own := [("_law_one", 11)]) rfl nd (di_weak (di_list (d_var (pv 1) (by decide : ¬ 1 ∈ ([] : List Nat))))) (blkOk_by (N := ["_law_sky_here", "_law_names", "_law_store", "_law_name", "_law_wish", "_law_start", "_law_length", "_law_angle", "_law_size", "_law_since", "_law_last", "_law_one"]) (sc := defScope st_law_level) (by decide +kernel)) (fun _ _ _ _ _ => (dg_name (pg_name nd (i := 11) rfl (Or.inl rfl)) (by decide : ¬ 11 ∈ ([] : List Nat)))) (fun _ _ _ _ _ => dts_nil) (fun _ _ _ _ _ => (d_ix ix_seq o_ix (d_ix ix_seq o_ix (d_ix ix_seq o_ix (d_var (pv 0) (by decide : ¬ 0 ∈ ([] : List Nat))) d_int fun _ _ => rfl) (d_var (pv 11) (by decide : ¬ 11 ∈ ([] : List Nat))) fun _ _ => rfl) d_int fun _ _ => rfl)))) rfl))))
    (dss_one (ds_ret d_non))
    dss_nil))))
    dss_nil)
    (dss_cons (ds_set (ps_set nd (i := 2) rfl (Or.inl rfl) (d_callB (call_max2 rfl) o_max2 (by rfl) y.b_max (by rfl) (da_cons d_int (da_cons (d_op op_sub o_sub (d_var (pv 2) (by decide : ¬ 2 ∈ ([] : List Nat))) (d_call (ok_law_loss y) (hr.mono (by decide : 1 ≤ 1)) (by rfl) y.m_law_loss y.F_law_loss.kp (b_law_loss y) (da_cons (d_var (pv 0) (by decide : ¬ 0 ∈ ([] : List Nat))) (da_cons (d_var (pv 9) (by decide : ¬ 9 ∈ ([] : List Nat))) (da_cons (d_var (pv 5) (by decide : ¬ 5 ∈ ([] : List Nat))) da_nil))))) da_nil)))) (by decide : ¬ 2 ∈ ([] : List Nat)))
    (dss_cons (ds_if (dt_cmp op_gt o_gt (d_op op_add o_add (d_var (pv 2) (by decide : ¬ 2 ∈ ([] : List Nat))) (d_var (pv 8) (by decide : ¬ 8 ∈ ([] : List Nat)))) (d_ix ix_seq o_ix (d_var (pv 0) (by decide : ¬ 0 ∈ ([] : List Nat))) d_int fun _ _ => rfl) (nomark _))
    (dss_one (ds_ret d_non))
    dss_nil)
    (dss_one (ds_ret (d_op op_add o_add (d_callB (call_max2 rfl) o_max2 (by rfl) y.b_max (by rfl) (da_cons d_int (da_cons (d_op op_sub o_sub (d_var (pv 2) (by decide : ¬ 2 ∈ ([] : List Nat))) (d_call (ok_law_loss y) (hr.mono (by decide : 1 ≤ 1)) (by rfl) y.m_law_loss y.F_law_loss.kp (b_law_loss y) (da_cons (d_var (pv 0) (by decide : ¬ 0 ∈ ([] : List Nat))) (da_cons (d_var (pv 5) (by decide : ¬ 5 ∈ ([] : List Nat))) (da_cons (d_op op_add o_add (d_var (pv 5) (by decide : ¬ 5 ∈ ([] : List Nat))) (d_var (pv 6) (by decide : ¬ 6 ∈ ([] : List Nat)))) da_nil))))) da_nil))) (d_var (pv 8) (by decide : ¬ 8 ∈ ([] : List Nat)))))))))))
def cp_law_plans_on_1 : Dt → Option PyData := (lcD [5, 6] (listI (vr 3)) (gT 2 (gsCons (setD 5) (gsCons (setD 6) gsNil))) (fun _ => some true) (bA (fun l => (szOk l).map .tuple) (aCons (b2 catL (vr 5) (asL (bA (fun l => (szOk l).map .list) (aCons (vr 4) aNil)))) (aCons (bA (gN 4 f_law_level) (aCons (vr 0) (aCons (vr 5) (aCons (vr 6) (aCons (vr 4) aNil))))) aNil))))
def lp_law_plans_on_1 : Dt → Option Out := (sq (stSet 7 (bA (gN 4 f_law_level) (aCons (vr 0) (aCons (vr 5) (aCons (vr 6) (aCons (vr 4) aNil))))))
  (stIf (tB (b2 isNotN (vr 7) (cD .none)))
  (stApp 3 (bA (fun l => (szOk l).map .tuple) (aCons (b2 catL (vr 5) (asL (bA (fun l => (szOk l).map .list) (aCons (vr 4) aNil)))) (aCons (vr 7) aNil))))
  stNx))
def lp_law_plans_on_2 : Dt → Option Out := (stIf (tB (b2 inD (vr 4) (vr 2)))
  (stSet 3 (asL cp_law_plans_on_1))
  (stIf (tB (b2 geI (b2 ixD (b2 ixD (b2 ixD (vr 0) (cD (.int 0))) (vr 4)) (cD (.int 1))) (vr 1)))
  (stFor (listI (asL (asL (vr 3)))) (gT 2 (gsCons (setD 5) (gsCons (setD 6) gsNil))) lp_law_plans_on_1)
  stNx))
def cp_law_plans_on_2 : Dt → Option PyData := (lcD [5, 6] (listI (vr 3)) (gT 2 (gsCons (setD 5) (gsCons (setD 6) gsNil))) (fun _ => some true) (vr 5))
def h_law_plans_on : Dt → Option Out := (sq (stSet 3 (asL (bA (fun l => (szOk l).map .list) (aCons (bA (fun l => (szOk l).map .tuple) (aCons (asL (bA (fun l => (szOk l).map .list) aNil)) (aCons (cD (.int 0)) aNil))) aNil))))
  (sq (stFor (rng1 (aCons (bA lenD (aCons (b2 ixD (vr 0) (cD (.int 0))) aNil)) aNil)) (setD 4) lp_law_plans_on_2)
  (stRet (bA srtR (aCons (asL cp_law_plans_on_2) aNil)))))
def f_law_plans_on : List PyData → Option Rs := runP ["_law_sky_here", "_law_now", "_law_begun", "_law_found", "_law_name", "_law_names", "_law_store", "_law_level_here"] h_law_plans_on
theorem ok_law_plans_on {w : World} (y : Hy K mg base fd k) : FnOk Pg w K mg base (L2.CX Pg w) 3 (A_law_plans_on K) (fd 45) ["_law_sky_here", "_law_now", "_law_begun"] (spP k 3 f_law_plans_on) := by
  have nd := (sc_law_plans_on).nd
  refine okP (h := h_law_plans_on) [3] y.F_law_plans_on sc_law_plans_on fun cdv A outer s H E F0 H0 hr => ?_
  exact (dss_cons (ds_setN (ps_set nd (i := 3) rfl (Or.inl rfl) (dn_lst (da_cons (d_tup (da_cons (d_ofN (dn_lst da_nil)) (da_cons d_int da_nil))) da_nil))) (by decide : 3 ∈ ([3] : List Nat)) (.inl (by decide)))
    (dss_cons (ds_for (passes_of rfl) rfl (di_rng1 (by rfl) y.b_range (da_cons (d_callB call_len_seq o_len (by rfl) y.b_len (by rfl) (da_cons (d_ix ix_seq o_ix (d_var (pv 0) (by decide : ¬ 0 ∈ ([3] : List Nat))) d_int fun _ _ => rfl) da_nil)) da_nil)) (dg_name (pg_name nd (i := 4) rfl (Or.inr rfl)) (by decide : ¬ 4 ∈ ([3] : List Nat)))
    (dss_one (ds_if (dt_cmp (op_inD (u65 hr)) o_inD (d_var (pv 4) (by decide : ¬ 4 ∈ ([3] : List Nat))) (d_var (pv 2) (by decide : ¬ 2 ∈ ([3] : List Nat))) rfl)
    (dss_one (ds_setN (das_lc (i := 3) (own := [("_law_names", 5), ("_law_store", 6)]) rfl nd rfl rfl (sw_true rfl rfl rfl (by decide +kernel)) (di_own (pv 3) (by decide : 3 ∈ ([3] : List Nat))) (blkOk_by (N := ["_law_sky_here", "_law_now", "_law_begun", "_law_found", "_law_name", "_law_names", "_law_store", "_law_level_here"]) (sc := defScope st_law_plans_on) (by decide +kernel)) (fun _ _ _ _ _ => (dg_tup rfl (dgs_cons (dg_name (pg_name nd (i := 5) rfl (Or.inl rfl)) (by decide : ¬ 5 ∈ ([3] : List Nat))) (dgs_cons (dg_name (pg_name nd (i := 6) rfl (Or.inl rfl)) (by decide : ¬ 6 ∈ ([3] : List Nat))) dgs_nil)))) (fun _ _ _ _ _ => dts_nil) (fun _ _ _ _ _ => (d_tup (da_cons (d_op op_cat o_catL (d_var (pv 5) (by decide : ¬ 5 ∈ ([3] : List Nat))) (d_ofN (dn_lst (da_cons (d_var (pv 4) (by decide : ¬ 4 ∈ ([3] : List Nat))) da_nil)))) (da_cons (d_call (ok_law_level y) (hr.mono (by decide : 2 ≤ 2)) (by rfl) y.m_law_level y.F_law_level.kp (b_law_level y) (da_cons (d_var (pv 0) (by decide : ¬ 0 ∈ ([3] : List Nat))) (da_cons (d_var (pv 5) (by decide : ¬ 5 ∈ ([3] : List Nat))) (da_cons (d_var (pv 6) (by decide : ¬ 6 ∈ ([3] : List Nat))) (da_cons (d_var (pv 4) (by decide : ¬ 4 ∈ ([3] : List Nat))) da_nil))))) da_nil))))) (by decide : 3 ∈ ([3] : List Nat)) (.inl (by decide))))
    (dss_one (ds_if (dt_cmp op_ge o_ge (d_ix ix_seq o_ix (d_ix ix_seq o_ix (d_ix ix_seq o_ix (d_var (pv 0) (by decide : ¬ 0 ∈ ([3] : List Nat))) d_int fun _ _ => rfl) (d_var (pv 4) (by decide : ¬ 4 ∈ ([3] : List Nat))) fun _ _ => rfl) d_int fun _ _ => rfl) (d_var (pv 1) (by decide : ¬ 1 ∈ ([3] : List Nat))) (nomark _))
    (dss_one (ds_for (passes_of rfl) rfl (di_list (d_ofN (dn_listOwn (by decide : 3 ∈ ([3] : List Nat)) (by rfl) y.b_list (by rfl) (pv 3)))) (dg_tup rfl (dgs_cons (dg_name (pg_name nd (i := 5) rfl (Or.inl rfl)) (by decide : ¬ 5 ∈ ([3] : List Nat))) (dgs_cons (dg_name (pg_name nd (i := 6) rfl (Or.inl rfl)) (by decide : ¬ 6 ∈ ([3] : List Nat))) dgs_nil)))
    (dss_cons (ds_set (ps_set nd (i := 7) rfl (Or.inl rfl) (d_call (ok_law_level y) (hr.mono (by decide : 2 ≤ 2)) (by rfl) y.m_law_level y.F_law_level.kp (b_law_level y) (da_cons (d_var (pv 0) (by decide : ¬ 0 ∈ ([3] : List Nat))) (da_cons (d_var (pv 5) (by decide : ¬ 5 ∈ ([3] : List Nat))) (da_cons (d_var (pv 6) (by decide : ¬ 6 ∈ ([3] : List Nat))) (da_cons (d_var (pv 4) (by decide : ¬ 4 ∈ ([3] : List Nat))) da_nil)))))) (by decide : ¬ 7 ∈ ([3] : List Nat)))
    (dss_one (ds_if (dt_cmp op_notN o_isNotN (d_var (pv 7) (by decide : ¬ 7 ∈ ([3] : List Nat))) d_non (nomark _))
    (dss_one (ds_app (ps_expr (pe_bm PySem.F.plainAttrs_list PySem.F.slot_list_append PySem.F.type_list_append mt_append (pv 3) (pa_cons (d_tup (da_cons (d_op op_cat o_catL (d_var (pv 5) (by decide : ¬ 5 ∈ ([3] : List Nat))) (d_ofN (dn_lst (da_cons (d_var (pv 4) (by decide : ¬ 4 ∈ ([3] : List Nat))) da_nil)))) (da_cons (d_var (pv 7) (by decide : ¬ 7 ∈ ([3] : List Nat))) da_nil))) pa_nil))) (by decide : 3 ∈ ([3] : List Nat))))
    dss_nil))) (by decide : ∀ j ∈ ([5, 6] : List Nat), j ∉ ([3] : List Nat))))
    dss_nil)))) (by decide : ∀ j ∈ ([4] : List Nat), j ∉ ([3] : List Nat)))
    (dss_one (ds_retZ rfl (d_callB (cr_srtR hr.units) o_srtR (by rfl) y.b_sorted (by rfl) (da_cons (d_ofN (dn_lc (own := [("_law_names", 5), ("_law_store", 6)]) rfl nd (di_weak (di_list (d_var (pv 3) (by decide : ¬ 3 ∈ ([] : List Nat))))) (blkOk_by (N := ["_law_sky_here", "_law_now", "_law_begun", "_law_found", "_law_name", "_law_names", "_law_store", "_law_level_here"]) (sc := defScope st_law_plans_on) (by decide +kernel)) (fun _ _ _ _ _ => (dg_tup rfl (dgs_cons (dg_name (pg_name nd (i := 5) rfl (Or.inl rfl)) (by decide : ¬ 5 ∈ ([] : List Nat))) (dgs_cons (dg_name (pg_name nd (i := 6) rfl (Or.inl rfl)) (by decide : ¬ 6 ∈ ([] : List Nat))) dgs_nil)))) (fun _ _ _ _ _ => dts_nil) (fun _ _ _ _ _ => (d_var (pv 5) (by decide : ¬ 5 ∈ ([] : List Nat)))))) da_nil))))))
def cp_law_keep_1 : Dt → Option PyData := (lcD [4] (listI (vr 1)) (setD 4) (fun _ => some true) (b2 ixD (b2 ixD (b2 ixD (vr 0) (cD (.int 0))) (vr 4)) (cD (.int 0))))
def cp_law_keep_2 : Dt → Option PyData := (lcD [5] (listI (vr 2)) (setD 5) (fun _ => some true) (b2 inD (vr 5) (vr 3)))
def h_law_keep : Dt → Option Out := (sq (stSet 3 (asL cp_law_keep_1))
  (stRet (bA allD (aCons (asL cp_law_keep_2) aNil))))
def f_law_keep : List PyData → Option Rs := runP ["_law_sky_here", "_law_names", "_law_promises", "_law_wishes", "_law_name", "_law_wish"] h_law_keep
theorem ok_law_keep {w : World} (y : Hy K mg base fd k) : FnOk Pg w K mg base (L2.CX Pg w) 1 (A_law_keep K) (fd 46) ["_law_sky_here", "_law_names", "_law_promises"] (spP k 3 f_law_keep) := by
  have nd := (sc_law_keep).nd
  refine okP (h := h_law_keep) [] y.F_law_keep sc_law_keep fun cdv A outer s H E F0 H0 hr => ?_
  exact (dss_cons (ds_set (ps_set nd (i := 3) rfl (Or.inr rfl) (d_ofN (dn_lc (own := [("_law_name", 4)]) rfl nd (di_weak (di_list (d_var (pv 1) (by decide : ¬ 1 ∈ ([] : List Nat))))) (blkOk_by (N := ["_law_sky_here", "_law_names", "_law_promises", "_law_wishes", "_law_name", "_law_wish"]) (sc := defScope st_law_keep) (by decide +kernel)) (fun _ _ _ _ _ => (dg_name (pg_name nd (i := 4) rfl (Or.inl rfl)) (by decide : ¬ 4 ∈ ([] : List Nat)))) (fun _ _ _ _ _ => dts_nil) (fun _ _ _ _ _ => (d_ix ix_seq o_ix (d_ix ix_seq o_ix (d_ix ix_seq o_ix (d_var (pv 0) (by decide : ¬ 0 ∈ ([] : List Nat))) d_int fun _ _ => rfl) (d_var (pv 4) (by decide : ¬ 4 ∈ ([] : List Nat))) fun _ _ => rfl) d_int fun _ _ => rfl))))) (by decide : ¬ 3 ∈ ([] : List Nat)))
    (dss_one (ds_ret (d_callB (cr_all rfl) o_all (by rfl) y.b_all (by rfl) (da_cons (d_ofN (dn_lc (own := [("_law_wish", 5)]) rfl nd (di_weak (di_list (d_var (pv 2) (by decide : ¬ 2 ∈ ([] : List Nat))))) (blkOk_by (N := ["_law_sky_here", "_law_names", "_law_promises", "_law_wishes", "_law_name", "_law_wish"]) (sc := defScope st_law_keep) (by decide +kernel)) (fun _ _ _ _ _ => (dg_name (pg_name nd (i := 5) rfl (Or.inl rfl)) (by decide : ¬ 5 ∈ ([] : List Nat)))) (fun _ _ _ _ _ => dts_nil) (fun _ _ _ _ _ => (d_cmp (op_inD (u65 hr)) o_inD (d_var (pv 5) (by decide : ¬ 5 ∈ ([] : List Nat))) (d_var (pv 3) (by decide : ¬ 3 ∈ ([] : List Nat))) rfl)))) da_nil)))))
def lp_law_best_1 : Dt → Option Out := (stIf (tAndD (tB (bA (gN 3 f_law_keep) (aCons (vr 1) (aCons (vr 6) (aCons (vr 4) aNil))))) (tOrD (tB (b2 isN (vr 5) (cD .none))) (tB (b2 gtI (bA (gN 2 f_law_worth) (aCons (vr 1) (aCons (vr 6) aNil))) (bA (gN 2 f_law_worth) (aCons (vr 1) (aCons (vr 5) aNil)))))))
  (stSet 5 (vr 6))
  stNx)
def h_law_best : Dt → Option Out := (sq (stG (vr 0) (gT 4 (gsCons (setD 1) (gsCons (setD 2) (gsCons (setD 3) (gsCons (setD 4) gsNil))))))
  (sq (stSet 5 (cD .none))
  (sq (stFor (listI (bA (gN 3 f_law_plans_on) (aCons (vr 1) (aCons (vr 2) (aCons (vr 3) aNil))))) (setD 6) lp_law_best_1)
  (stRet (vr 5)))))
def f_law_best : List PyData → Option Rs := runP ["_law_state", "_law_sky_here", "_law_now", "_law_begun", "_law_promises", "_law_best_here", "_law_names"] h_law_best
theorem ok_law_best {w : World} (y : Hy K mg base fd k) : FnOk Pg w K mg base (L2.CX Pg w) 4 (A_law_best K) (fd 47) ["_law_state"] (spP k 1 f_law_best) := by
  have nd := (sc_law_best).nd
  refine okP (h := h_law_best) [] y.F_law_best sc_law_best fun cdv A outer s H E F0 H0 hr => ?_
  exact (dss_cons (ds_G (ps_asg (d_var (pv 0) (by decide : ¬ 0 ∈ ([] : List Nat))) (dg_tup rfl (dgs_cons (dg_name (pg_name nd (i := 1) rfl (Or.inl rfl)) (by decide : ¬ 1 ∈ ([] : List Nat))) (dgs_cons (dg_name (pg_name nd (i := 2) rfl (Or.inl rfl)) (by decide : ¬ 2 ∈ ([] : List Nat))) (dgs_cons (dg_name (pg_name nd (i := 3) rfl (Or.inl rfl)) (by decide : ¬ 3 ∈ ([] : List Nat))) (dgs_cons (dg_name (pg_name nd (i := 4) rfl (Or.inl rfl)) (by decide : ¬ 4 ∈ ([] : List Nat))) dgs_nil)))))) (by decide : ∀ j ∈ ([1, 2, 3, 4] : List Nat), j ∉ ([] : List Nat)))
    (dss_cons (ds_set (ps_set nd (i := 5) rfl (Or.inl rfl) d_non) (by decide : ¬ 5 ∈ ([] : List Nat)))
    (dss_cons (ds_for (passes_of rfl) rfl (di_list (d_call (ok_law_plans_on y) (hr.mono (by decide : 3 ≤ 3)) (by rfl) y.m_law_plans_on y.F_law_plans_on.kp (b_law_plans_on y) (da_cons (d_var (pv 1) (by decide : ¬ 1 ∈ ([] : List Nat))) (da_cons (d_var (pv 2) (by decide : ¬ 2 ∈ ([] : List Nat))) (da_cons (d_var (pv 3) (by decide : ¬ 3 ∈ ([] : List Nat))) da_nil))))) (dg_name (pg_name nd (i := 6) rfl (Or.inl rfl)) (by decide : ¬ 6 ∈ ([] : List Nat)))
    (dss_one (ds_if (PW.pt (dw_and (dt_val (d_call (ok_law_keep y) (hr.mono (by decide : 1 ≤ 3)) (by rfl) y.m_law_keep y.F_law_keep.kp (b_law_keep y) (da_cons (d_var (pv 1) (by decide : ¬ 1 ∈ ([] : List Nat))) (da_cons (d_var (pv 6) (by decide : ¬ 6 ∈ ([] : List Nat))) (da_cons (d_var (pv 4) (by decide : ¬ 4 ∈ ([] : List Nat))) da_nil)))) (by intro _; rfl)) (dw_and1 (PW.pt (dw_or (dt_cmp op_isN o_isN (d_var (pv 5) (by decide : ¬ 5 ∈ ([] : List Nat))) d_non (nomark _)) (dw_or1 (dt_cmp op_gt o_gt (d_call (ok_law_worth y) (hr.mono (by decide : 1 ≤ 3)) (by rfl) y.m_law_worth y.F_law_worth.kp (b_law_worth y) (da_cons (d_var (pv 1) (by decide : ¬ 1 ∈ ([] : List Nat))) (da_cons (d_var (pv 6) (by decide : ¬ 6 ∈ ([] : List Nat))) da_nil))) (d_call (ok_law_worth y) (hr.mono (by decide : 1 ≤ 3)) (by rfl) y.m_law_worth y.F_law_worth.kp (b_law_worth y) (da_cons (d_var (pv 1) (by decide : ¬ 1 ∈ ([] : List Nat))) (da_cons (d_var (pv 5) (by decide : ¬ 5 ∈ ([] : List Nat))) da_nil))) (nomark _))))))))
    (dss_one (ds_set (ps_set nd (i := 5) rfl (Or.inl rfl) (d_var (pv 6) (by decide : ¬ 6 ∈ ([] : List Nat)))) (by decide : ¬ 5 ∈ ([] : List Nat))))
    dss_nil)) (by decide : ∀ j ∈ ([6] : List Nat), j ∉ ([] : List Nat)))
    (dss_one (ds_ret (d_var (pv 5) (by decide : ¬ 5 ∈ ([] : List Nat))))))))
def lp_law_deed_1 : Dt → Option Out := (sq (stSet 10 (b2 subI (b2 addI (vr 3) (b2 modI (bA toI (aCons (b2 ixD (vr 1) (b2 addI (cD (.int 2)) (vr 9))) aNil)) (cD (.int 6)))) (b2 mulI (bA toI (aCons (b2 eqD (vr 7) (cD (.int 2))) aNil)) (cD (.int 7)))))
  (sq (stSet 11 (b2 subI (b2 addI (cD (.int 1)) (b2 modI (bA toI (aCons (b2 ixD (vr 1) (b2 addI (cD (.int 3)) (vr 9))) aNil)) (cD (.int 3)))) (b2 mulI (bA toI (aCons (b2 eqD (vr 7) (cD (.int 3))) aNil)) (cD (.int 3)))))
  (stApp 8 (bA (fun l => (szOk l).map .tuple) (aCons (vr 10) (aCons (vr 11) (aCons (b2 subI (b2 modI (bA toI (aCons (b2 ixD (vr 1) (b2 addI (cD (.int 4)) (vr 9))) aNil)) (cD (.int 61))) (cD (.int 30))) (aCons (b2 addI (b2 addI (cD (.int 1)) (b2 modI (bA toI (aCons (b2 ixD (vr 1) (b2 addI (cD (.int 5)) (vr 9))) aNil)) (cD (.int 4)))) (b2 mulI (bA toI (aCons (b2 eqD (vr 7) (cD (.int 4))) aNil)) (cD (.int 30)))) aNil))))))))
def h_law_deed : Dt → Option Out := (sq (stG (vr 0) (gT 4 (gsCons (setD 2) (gsCons (setD 3) (gsCons (setD 4) (gsCons (setD 5) gsNil))))))
  (sq (stPar 6 7 (aCons (b2 modI (bA toI (aCons (b2 ixD (vr 1) (cD (.int 0))) aNil)) (cD (.int 9))) (aCons (b2 modI (bA toI (aCons (b2 ixD (vr 1) (cD (.int 1))) aNil)) (cD (.int 12))) aNil)))
  (sq (stIf (tB (b2 ltI (vr 6) (cD (.int 2))))
  (stRet (bA (fun l => (szOk l).map .tuple) (aCons (cD (.str "go")) (aCons (b2 ixD (asL (bA (fun l => (szOk l).map .list) (aCons (b2 addI (vr 3) (b2 modI (bA toI (aCons (b2 ixD (vr 1) (cD (.int 2))) aNil)) (cD (.int 4)))) (aCons (b2 subI (vr 3) (cD (.int 1))) (aCons (cD (.int 201)) aNil))))) (b2 addI (bA toI (aCons (b2 eqD (vr 7) (cD (.int 0))) aNil)) (b2 mulI (cD (.int 2)) (bA toI (aCons (b2 eqD (vr 7) (cD (.int 1))) aNil))))) aNil))))
  stNx)
  (sq (stIf (tB (b2 ltI (vr 6) (cD (.int 5))))
  (sq (stSet 8 (asL (bA (fun l => (szOk l).map .list) aNil)))
  (sq (stFor (rng1 (aCons (b2 modI (bA toI (aCons (b2 ixD (vr 1) (cD (.int 3))) aNil)) (cD (.int 3))) aNil)) (setD 9) lp_law_deed_1)
  (stRet (bA (fun l => (szOk l).map .tuple) (aCons (cD (.str "wish")) (aCons (b2 addI (b2 modI (bA toI (aCons (b2 ixD (vr 1) (cD (.int 6))) aNil)) (cD (.int 10))) (b2 mulI (bA toI (aCons (b2 eqD (vr 7) (cD (.int 5))) aNil)) (cD (.int 95)))) (aCons (vr 8) aNil)))))))
  stNx)
  (sq (stIf (tB (b2 ltI (vr 6) (cD (.int 7))))
  (stRet (bA (fun l => (szOk l).map .tuple) (aCons (cD (.str "promise")) (aCons (b2 modI (bA toI (aCons (b2 ixD (vr 1) (cD (.int 2))) aNil)) (b2 addI (bA lenD (aCons (b2 ixD (vr 2) (cD (.int 1))) aNil)) (bA toI (aCons (b2 ltI (vr 7) (cD (.int 3))) aNil)))) aNil))))
  stNx)
  (sq (stIf (tAndD (tB (b2 eqD (vr 6) (cD (.int 7)))) (tAndD (tB (b2 gtI (bA lenD (aCons (vr 5) aNil)) (cD (.int 0)))) (tB (b2 gtI (vr 7) (cD (.int 3))))))
  (stRet (bA (fun l => (szOk l).map .tuple) (aCons (cD (.str "release")) (aCons (b2 ixD (vr 5) (b2 modI (bA toI (aCons (b2 ixD (vr 1) (cD (.int 2))) aNil)) (bA lenD (aCons (vr 5) aNil)))) aNil))))
  stNx)
  (sq (stIf (tB (b2 eqD (vr 6) (cD (.int 7))))
  (stRet (bA (fun l => (szOk l).map .tuple) (aCons (cD (.str "release")) (aCons (b2 subI (b2 modI (bA toI (aCons (b2 ixD (vr 1) (cD (.int 2))) aNil)) (b2 addI (bA lenD (aCons (b2 ixD (vr 2) (cD (.int 1))) aNil)) (cD (.int 1)))) (bA toI (aCons (b2 eqD (vr 7) (cD (.int 0))) aNil))) aNil))))
  stNx)
  (stRet (bA (fun l => (szOk l).map .tuple) (aCons (cD (.str "lose")) (aCons (b2 subI (b2 modI (bA toI (aCons (b2 ixD (vr 1) (cD (.int 2))) aNil)) (b2 addI (bA lenD (aCons (b2 ixD (vr 2) (cD (.int 2))) aNil)) (cD (.int 1)))) (bA toI (aCons (b2 eqD (vr 7) (cD (.int 0))) aNil))) aNil)))))))))))
def f_law_deed : List PyData → Option Rs := runP ["_law_state", "_law_draws_here", "_law_sky_here", "_law_now", "_law_begun", "_law_promises", "_law_kind", "_law_odd", "_law_looks", "_law_k", "_law_start", "_law_length"] h_law_deed
theorem ok_law_deed {w : World} (y : Hy K mg base fd k) : FnOk Pg w K mg base (L2.CX Pg w) 1 (A_law_deed K) (fd 48) ["_law_state", "_law_draws_here"] (spP k 2 f_law_deed) := by
  have nd := (sc_law_deed).nd
  refine okP (h := h_law_deed) [8] y.F_law_deed sc_law_deed fun cdv A outer s H E F0 H0 hr => ?_
  exact (dss_cons (ds_G (ps_asg (d_var (pv 0) (by decide : ¬ 0 ∈ ([8] : List Nat))) (dg_tup rfl (dgs_cons (dg_name (pg_name nd (i := 2) rfl (Or.inl rfl)) (by decide : ¬ 2 ∈ ([8] : List Nat))) (dgs_cons (dg_name (pg_name nd (i := 3) rfl (Or.inl rfl)) (by decide : ¬ 3 ∈ ([8] : List Nat))) (dgs_cons (dg_name (pg_name nd (i := 4) rfl (Or.inl rfl)) (by decide : ¬ 4 ∈ ([8] : List Nat))) (dgs_cons (dg_name (pg_name nd (i := 5) rfl (Or.inl rfl)) (by decide : ¬ 5 ∈ ([8] : List Nat))) dgs_nil)))))) (by decide : ∀ j ∈ ([2, 3, 4, 5] : List Nat), j ∉ ([8] : List Nat)))
    (dss_cons (ds_par (ps_par rfl nd (i := 6) (j := 7) rfl rfl (by decide) rfl rfl (da_cons (d_op op_mod o_mod (d_callTy call_int1 o_int (by rfl) y.b_int (by rfl) (da_cons (d_ix ix_seq o_ix (d_var (pv 1) (by decide : ¬ 1 ∈ ([8] : List Nat))) d_int fun _ _ => rfl) da_nil)) d_int) (da_cons (d_op op_mod o_mod (d_callTy call_int1 o_int (by rfl) y.b_int (by rfl) (da_cons (d_ix ix_seq o_ix (d_var (pv 1) (by decide : ¬ 1 ∈ ([8] : List Nat))) d_int fun _ _ => rfl) da_nil)) d_int) da_nil)) (by kernel_rfl)) (by decide : ¬ 6 ∈ ([8] : List Nat)) (by decide : ¬ 7 ∈ ([8] : List Nat)))
    (dss_cons (ds_if (dt_cmp op_lt o_lt (d_var (pv 6) (by decide : ¬ 6 ∈ ([8] : List Nat))) d_int (nomark _))
    (dss_one (ds_ret (d_tup (da_cons d_str (da_cons (d_ix ix_seq o_ix (d_ofN (dn_lst (da_cons (d_op op_add o_add (d_var (pv 3) (by decide : ¬ 3 ∈ ([8] : List Nat))) (d_op op_mod o_mod (d_callTy call_int1 o_int (by rfl) y.b_int (by rfl) (da_cons (d_ix ix_seq o_ix (d_var (pv 1) (by decide : ¬ 1 ∈ ([8] : List Nat))) d_int fun _ _ => rfl) da_nil)) d_int)) (da_cons (d_op op_sub o_sub (d_var (pv 3) (by decide : ¬ 3 ∈ ([8] : List Nat))) d_int) (da_cons d_int da_nil))))) (d_op op_add o_add (d_callTy call_int1 o_int (by rfl) y.b_int (by rfl) (da_cons (d_cmp (op_eqD hr.units) o_eqD (d_var (pv 7) (by decide : ¬ 7 ∈ ([8] : List Nat))) d_int (nomark _)) da_nil)) (d_op op_mul o_mul d_int (d_callTy call_int1 o_int (by rfl) y.b_int (by rfl) (da_cons (d_cmp (op_eqD hr.units) o_eqD (d_var (pv 7) (by decide : ¬ 7 ∈ ([8] : List Nat))) d_int (nomark _)) da_nil)))) fun _ _ => rfl) da_nil)))))
    dss_nil)
    (dss_cons (ds_if (dt_cmp op_lt o_lt (d_var (pv 6) (by decide : ¬ 6 ∈ ([8] : List Nat))) d_int (nomark _))
    (dss_cons (ds_setN (ps_set nd (i := 8) rfl (Or.inl rfl) (dn_lst da_nil)) (by decide : 8 ∈ ([8] : List Nat)) (.inl (by decide)))
    (dss_cons (ds_for (passes_of rfl) rfl (di_rng1 (by rfl) y.b_range (da_cons (d_op op_mod o_mod (d_callTy call_int1 o_int (by rfl) y.b_int (by rfl) (da_cons (d_ix ix_seq o_ix (d_var (pv 1) (by decide : ¬ 1 ∈ ([8] : List Nat))) d_int fun _ _ => rfl) da_nil)) d_int) da_nil)) (dg_name (pg_name nd (i := 9) rfl (Or.inl rfl)) (by decide : ¬ 9 ∈ ([8] : List Nat)))
    (dss_cons (ds_set (ps_set nd (i := 10) rfl (Or.inl rfl) (d_op op_sub o_sub (d_op op_add o_add (d_var (pv 3) (by decide : ¬ 3 ∈ ([8] : List Nat))) (d_op op_mod o_mod (d_callTy call_int1 o_int (by rfl) y.b_int (by rfl) (da_cons (d_ix ix_seq o_ix (d_var (pv 1) (by decide : ¬ 1 ∈ ([8] : List Nat))) (d_op op_add o_add d_int (d_var (pv 9) (by decide : ¬ 9 ∈ ([8] : List Nat)))) fun _ _ => rfl) da_nil)) d_int)) (d_op op_mul o_mul (d_callTy call_int1 o_int (by rfl) y.b_int (by rfl) (da_cons (d_cmp (op_eqD hr.units) o_eqD (d_var (pv 7) (by decide : ¬ 7 ∈ ([8] : List Nat))) d_int (nomark _)) da_nil)) d_int))) (by decide : ¬ 10 ∈ ([8] : List Nat)))
    (dss_cons (ds_set (ps_set nd (i := 11) rfl (Or.inl rfl) (d_op op_sub o_sub (d_op op_add o_add d_int (d_op op_mod o_mod (d_callTy call_int1 o_int (by rfl) y.b_int (by rfl) (da_cons (d_ix ix_seq o_ix (d_var (pv 1) (by decide : ¬ 1 ∈ ([8] : List Nat))) (d_op op_add o_add d_int (d_var (pv 9) (by decide : ¬ 9 ∈ ([8] : List Nat)))) fun _ _ => rfl) da_nil)) d_int)) (d_op op_mul o_mul (d_callTy call_int1 o_int (by rfl) y.b_int (by rfl) (da_cons (d_cmp (op_eqD hr.units) o_eqD (d_var (pv 7) (by decide : ¬ 7 ∈ ([8] : List Nat))) d_int (nomark _)) da_nil)) d_int))) (by decide : ¬ 11 ∈ ([8] : List Nat)))
    (dss_one (ds_app (ps_expr (pe_bm PySem.F.plainAttrs_list PySem.F.slot_list_append PySem.F.type_list_append mt_append (pv 8) (pa_cons (d_tup (da_cons (d_var (pv 10) (by decide : ¬ 10 ∈ ([8] : List Nat))) (da_cons (d_var (pv 11) (by decide : ¬ 11 ∈ ([8] : List Nat))) (da_cons (d_op op_sub o_sub (d_op op_mod o_mod (d_callTy call_int1 o_int (by rfl) y.b_int (by rfl) (da_cons (d_ix ix_seq o_ix (d_var (pv 1) (by decide : ¬ 1 ∈ ([8] : List Nat))) (d_op op_add o_add d_int (d_var (pv 9) (by decide : ¬ 9 ∈ ([8] : List Nat)))) fun _ _ => rfl) da_nil)) d_int) d_int) (da_cons (d_op op_add o_add (d_op op_add o_add d_int (d_op op_mod o_mod (d_callTy call_int1 o_int (by rfl) y.b_int (by rfl) (da_cons (d_ix ix_seq o_ix (d_var (pv 1) (by decide : ¬ 1 ∈ ([8] : List Nat))) (d_op op_add o_add d_int (d_var (pv 9) (by decide : ¬ 9 ∈ ([8] : List Nat)))) fun _ _ => rfl) da_nil)) d_int)) (d_op op_mul o_mul (d_callTy call_int1 o_int (by rfl) y.b_int (by rfl) (da_cons (d_cmp (op_eqD hr.units) o_eqD (d_var (pv 7) (by decide : ¬ 7 ∈ ([8] : List Nat))) d_int (nomark _)) da_nil)) d_int)) da_nil))))) pa_nil))) (by decide : 8 ∈ ([8] : List Nat)))))) (by decide : ∀ j ∈ ([9] : List Nat), j ∉ ([8] : List Nat)))
    (dss_one (ds_retZ rfl (d_tup (da_cons d_str (da_cons (d_op op_add o_add (d_op op_mod o_mod (d_callTy call_int1 o_int (by rfl) y.b_int (by rfl) (da_cons (d_ix ix_seq o_ix (d_var (pv 1) (by decide : ¬ 1 ∈ ([] : List Nat))) d_int fun _ _ => rfl) da_nil)) d_int) (d_op op_mul o_mul (d_callTy call_int1 o_int (by rfl) y.b_int (by rfl) (da_cons (d_cmp (op_eqD hr.units) o_eqD (d_var (pv 7) (by decide : ¬ 7 ∈ ([] : List Nat))) d_int (nomark _)) da_nil)) d_int)) (da_cons (d_var (pv 8) (by decide : ¬ 8 ∈ ([] : List Nat))) da_nil))))))))
    dss_nil)
    (dss_cons (ds_if (dt_cmp op_lt o_lt (d_var (pv 6) (by decide : ¬ 6 ∈ ([8] : List Nat))) d_int (nomark _))
    (dss_one (ds_ret (d_tup (da_cons d_str (da_cons (d_op op_mod o_mod (d_callTy call_int1 o_int (by rfl) y.b_int (by rfl) (da_cons (d_ix ix_seq o_ix (d_var (pv 1) (by decide : ¬ 1 ∈ ([8] : List Nat))) d_int fun _ _ => rfl) da_nil)) (d_op op_add o_add (d_callB call_len_seq o_len (by rfl) y.b_len (by rfl) (da_cons (d_ix ix_seq o_ix (d_var (pv 2) (by decide : ¬ 2 ∈ ([8] : List Nat))) d_int fun _ _ => rfl) da_nil)) (d_callTy call_int1 o_int (by rfl) y.b_int (by rfl) (da_cons (d_cmp op_lt o_lt (d_var (pv 7) (by decide : ¬ 7 ∈ ([8] : List Nat))) d_int (nomark _)) da_nil)))) da_nil)))))
    dss_nil)
    (dss_cons (ds_if (PW.pt (dw_and (dt_cmp (op_eqD hr.units) o_eqD (d_var (pv 6) (by decide : ¬ 6 ∈ ([8] : List Nat))) d_int (nomark _)) (dw_and (dt_cmp op_gt o_gt (d_callB call_len_seq o_len (by rfl) y.b_len (by rfl) (da_cons (d_var (pv 5) (by decide : ¬ 5 ∈ ([8] : List Nat))) da_nil)) d_int (nomark _)) (dw_and1 (dt_cmp op_gt o_gt (d_var (pv 7) (by decide : ¬ 7 ∈ ([8] : List Nat))) d_int (nomark _))))))
    (dss_one (ds_ret (d_tup (da_cons d_str (da_cons (d_ix ix_seq o_ix (d_var (pv 5) (by decide : ¬ 5 ∈ ([8] : List Nat))) (d_op op_mod o_mod (d_callTy call_int1 o_int (by rfl) y.b_int (by rfl) (da_cons (d_ix ix_seq o_ix (d_var (pv 1) (by decide : ¬ 1 ∈ ([8] : List Nat))) d_int fun _ _ => rfl) da_nil)) (d_callB call_len_seq o_len (by rfl) y.b_len (by rfl) (da_cons (d_var (pv 5) (by decide : ¬ 5 ∈ ([8] : List Nat))) da_nil))) fun _ _ => rfl) da_nil)))))
    dss_nil)
    (dss_cons (ds_if (dt_cmp (op_eqD hr.units) o_eqD (d_var (pv 6) (by decide : ¬ 6 ∈ ([8] : List Nat))) d_int (nomark _))
    (dss_one (ds_ret (d_tup (da_cons d_str (da_cons (d_op op_sub o_sub (d_op op_mod o_mod (d_callTy call_int1 o_int (by rfl) y.b_int (by rfl) (da_cons (d_ix ix_seq o_ix (d_var (pv 1) (by decide : ¬ 1 ∈ ([8] : List Nat))) d_int fun _ _ => rfl) da_nil)) (d_op op_add o_add (d_callB call_len_seq o_len (by rfl) y.b_len (by rfl) (da_cons (d_ix ix_seq o_ix (d_var (pv 2) (by decide : ¬ 2 ∈ ([8] : List Nat))) d_int fun _ _ => rfl) da_nil)) d_int)) (d_callTy call_int1 o_int (by rfl) y.b_int (by rfl) (da_cons (d_cmp (op_eqD hr.units) o_eqD (d_var (pv 7) (by decide : ¬ 7 ∈ ([8] : List Nat))) d_int (nomark _)) da_nil))) da_nil)))))
    dss_nil)
    (dss_one (ds_ret (d_tup (da_cons d_str (da_cons (d_op op_sub o_sub (d_op op_mod o_mod (d_callTy call_int1 o_int (by rfl) y.b_int (by rfl) (da_cons (d_ix ix_seq o_ix (d_var (pv 1) (by decide : ¬ 1 ∈ ([8] : List Nat))) d_int fun _ _ => rfl) da_nil)) (d_op op_add o_add (d_callB call_len_seq o_len (by rfl) y.b_len (by rfl) (da_cons (d_ix ix_seq o_ix (d_var (pv 2) (by decide : ¬ 2 ∈ ([8] : List Nat))) d_int fun _ _ => rfl) da_nil)) d_int)) (d_callTy call_int1 o_int (by rfl) y.b_int (by rfl) (da_cons (d_cmp (op_eqD hr.units) o_eqD (d_var (pv 7) (by decide : ¬ 7 ∈ ([8] : List Nat))) d_int (nomark _)) da_nil))) da_nil))))))))))))
end
end Sk
set_option Elab.async false
set_option linter.all false
set_option maxRecDepth 100000
set_option maxHeartbeats 4000000
/-! Walks of the law's defs that meet errors, and of the law. Printed by walk5.py. -/
namespace Sk
open PySem PySem.Spec PyProof.Rows L2 Dl PySem.SkyX
open L2H (RoomH roomH_of)
section
variable {K : PySem.W.Frag} {mg : Str → Option Value} {base : Heap} {fd : Nat → FuncData} {k : Cl}
def h_law_class (b_BadWish b_BadNumber b_BadSize b_BadTime b_NothingToUndo b_Clash b_NotSo b_BadEar b_BadEntry b_NothingToRedo b_SkyError : Bool) : Dt → Option Out := (sq (stSet 1 (asL (bA (fun l => (szOk l).map .list) (aCons (cD (.str "BadTime")) (aCons (cD (.str "BadSize")) (aCons (cD (.str "BadNumber")) (aCons (cD (.str "BadWish")) (aCons (cD (.str "BadEar")) (aCons (cD (.str "NotSo")) (aCons (cD (.str "Clash")) (aCons (cD (.str "NothingToUndo")) (aCons (cD (.str "NothingToRedo")) (aCons (cD (.str "BadEntry")) (aCons (cD (.str "other")) aNil))))))))))))))
  (sq (stSet 2 (asL (bA (fun l => (szOk l).map .list) (aCons (b1 (isE b_BadTime) (vr 0)) (aCons (b1 (isE b_BadSize) (vr 0)) (aCons (b1 (isE b_BadNumber) (vr 0)) (aCons (b1 (isE b_BadWish) (vr 0)) aNil)))))))
  (sq (stSet 2 (b2 catL (vr 2) (asL (bA (fun l => (szOk l).map .list) (aCons (b1 (isE b_BadEar) (vr 0)) (aCons (b1 (isE b_NotSo) (vr 0)) (aCons (b1 (isE b_Clash) (vr 0)) (aCons (b1 (isE b_NothingToUndo) (vr 0)) aNil))))))))
  (sq (stSet 2 (b2 catL (vr 2) (asL (bA (fun l => (szOk l).map .list) (aCons (b1 (isE b_NothingToRedo) (vr 0)) (aCons (b1 (isE b_BadEntry) (vr 0)) (aCons (cD (.bool true)) aNil)))))))
  (sq (stIf (tNotD (tB (b1 (isE b_SkyError) (vr 0))))
  (stRet (cD (.str "other")))
  stNx)
  (stRet (b2 ixD (vr 1) (b2 idxD (vr 2) (cD (.bool true))))))))))
def f_law_class (c : Nat) : List PyData → Option Rs := runP ["_law_error", "_law_words", "_law_kinds"] (h_law_class (c == 2) (c == 1) (c == 0) (c == 3) false (c == 6) (c == 5) (c == 4) false false true)
theorem exc_c (y : Hy K mg base fd k) : ∀ c, c < 7 → ExcC K (k.ec c)
  | 0, _ => y.X_BadSize
  | 1, _ => y.X_BadNumber
  | 2, _ => y.X_BadWish
  | 3, _ => y.X_BadTime
  | 4, _ => y.X_BadEar
  | 5, _ => y.X_NotSo
  | 6, _ => y.X_Clash
  | n + 7, h => absurd h (by omega)
theorem ok_law_class {w : World} (y : Hy K mg base fd k) {c : Nat} (hc : c < 7) {a : Addr} {dd : Option Addr} : FnW Pg w K mg base (L2.CX Pg w) 2 (A_law_class K) (fd 49) ["_law_error"] (k.ec c) a dd (spW k.T (f_law_class c) a dd) := by
  have nd := (sc_law_class).nd
  have ec := exc_c y c hc
  have m_BadSize := y.m_BadSize
  have hb_BadSize : PySem.W.kitOne K (.ref (k.ec c)) (.ref (k.ec 0)) = some (c == 0) := y.kits c 0 hc (by decide)
  have m_BadNumber := y.m_BadNumber
  have hb_BadNumber : PySem.W.kitOne K (.ref (k.ec c)) (.ref (k.ec 1)) = some (c == 1) := y.kits c 1 hc (by decide)
  have m_BadWish := y.m_BadWish
  have hb_BadWish : PySem.W.kitOne K (.ref (k.ec c)) (.ref (k.ec 2)) = some (c == 2) := y.kits c 2 hc (by decide)
  have m_BadTime := y.m_BadTime
  have hb_BadTime : PySem.W.kitOne K (.ref (k.ec c)) (.ref (k.ec 3)) = some (c == 3) := y.kits c 3 hc (by decide)
  have m_BadEar := y.m_BadEar
  have hb_BadEar : PySem.W.kitOne K (.ref (k.ec c)) (.ref (k.ec 4)) = some (c == 4) := y.kits c 4 hc (by decide)
  have m_NotSo := y.m_NotSo
  have hb_NotSo : PySem.W.kitOne K (.ref (k.ec c)) (.ref (k.ec 5)) = some (c == 5) := y.kits c 5 hc (by decide)
  have m_Clash := y.m_Clash
  have hb_Clash : PySem.W.kitOne K (.ref (k.ec c)) (.ref (k.ec 6)) = some (c == 6) := y.kits c 6 hc (by decide)
  obtain ⟨C_NothingToUndo, m_NothingToUndo, hb_NothingToUndo⟩ := y.m_NothingToUndo
  have hb_NothingToUndo := hb_NothingToUndo c hc
  obtain ⟨C_NothingToRedo, m_NothingToRedo, hb_NothingToRedo⟩ := y.m_NothingToRedo
  have hb_NothingToRedo := hb_NothingToRedo c hc
  obtain ⟨C_BadEntry, m_BadEntry, hb_BadEntry⟩ := y.m_BadEntry
  have hb_BadEntry := hb_BadEntry c hc
  obtain ⟨C_SkyError, m_SkyError, hb_SkyError, _⟩ := y.m_SkyError
  have hb_SkyError := hb_SkyError c hc
  refine okW (lv := 1) (h := h_law_class (c == 2) (c == 1) (c == 0) (c == 3) false (c == 6) (c == 5) (c == 4) false false true) [] y.F_law_class sc_law_class fun cdv A outer s H E p F0 H0 hot hr => ?_
  obtain ⟨p1, oe⟩ := p
  obtain ⟨e1, hz, hf⟩ := hot
  have e1 : p1 = a := e1
  subst e1
  have hp : (p1, oe) ∈ [(p1, oe)] := List.mem_cons_self
  exact (dss_cons (ds_set (ps_set nd (i := 1) rfl (Or.inl rfl) (d_ofN (dn_lst (da_cons d_str (da_cons d_str (da_cons d_str (da_cons d_str (da_cons d_str (da_cons d_str (da_cons d_str (da_cons d_str (da_cons d_str (da_cons d_str (da_cons d_str da_nil)))))))))))))) (by decide : ¬ 1 ∈ ([] : List Nat)))
    (dss_cons (ds_set (ps_set nd (i := 2) rfl (Or.inl rfl) (d_ofN (dn_lst (da_cons (d_isE ec hz hf hp rfl (hb_BadTime) (by rfl) y.b_isinstance (by rfl) (by rfl) m_BadTime (by decide) (d_var (pv 0) (by decide : ¬ 0 ∈ ([] : List Nat)))) (da_cons (d_isE ec hz hf hp rfl (hb_BadSize) (by rfl) y.b_isinstance (by rfl) (by rfl) m_BadSize (by decide) (d_var (pv 0) (by decide : ¬ 0 ∈ ([] : List Nat)))) (da_cons (d_isE ec hz hf hp rfl (hb_BadNumber) (by rfl) y.b_isinstance (by rfl) (by rfl) m_BadNumber (by decide) (d_var (pv 0) (by decide : ¬ 0 ∈ ([] : List Nat)))) (da_cons (d_isE ec hz hf hp rfl (hb_BadWish) (by rfl) y.b_isinstance (by rfl) (by rfl) m_BadWish (by decide) (d_var (pv 0) (by decide : ¬ 0 ∈ ([] : List Nat)))) da_nil))))))) (by decide : ¬ 2 ∈ ([] : List Nat)))
    (dss_cons (ds_set (ps_set nd (i := 2) rfl (Or.inl rfl) (d_op op_cat o_catL (d_var (pv 2) (by decide : ¬ 2 ∈ ([] : List Nat))) (d_ofN (dn_lst (da_cons (d_isE ec hz hf hp rfl (hb_BadEar) (by rfl) y.b_isinstance (by rfl) (by rfl) m_BadEar (by decide) (d_var (pv 0) (by decide : ¬ 0 ∈ ([] : List Nat)))) (da_cons (d_isE ec hz hf hp rfl (hb_NotSo) (by rfl) y.b_isinstance (by rfl) (by rfl) m_NotSo (by decide) (d_var (pv 0) (by decide : ¬ 0 ∈ ([] : List Nat)))) (da_cons (d_isE ec hz hf hp rfl (hb_Clash) (by rfl) y.b_isinstance (by rfl) (by rfl) m_Clash (by decide) (d_var (pv 0) (by decide : ¬ 0 ∈ ([] : List Nat)))) (da_cons (d_isE ec hz hf hp rfl (hb_NothingToUndo) (by rfl) y.b_isinstance (by rfl) (by rfl) m_NothingToUndo (by decide) (d_var (pv 0) (by decide : ¬ 0 ∈ ([] : List Nat)))) da_nil)))))))) (by decide : ¬ 2 ∈ ([] : List Nat)))
    (dss_cons (ds_set (ps_set nd (i := 2) rfl (Or.inl rfl) (d_op op_cat o_catL (d_var (pv 2) (by decide : ¬ 2 ∈ ([] : List Nat))) (d_ofN (dn_lst (da_cons (d_isE ec hz hf hp rfl (hb_NothingToRedo) (by rfl) y.b_isinstance (by rfl) (by rfl) m_NothingToRedo (by decide) (d_var (pv 0) (by decide : ¬ 0 ∈ ([] : List Nat)))) (da_cons (d_isE ec hz hf hp rfl (hb_BadEntry) (by rfl) y.b_isinstance (by rfl) (by rfl) m_BadEntry (by decide) (d_var (pv 0) (by decide : ¬ 0 ∈ ([] : List Nat)))) (da_cons d_bl da_nil))))))) (by decide : ¬ 2 ∈ ([] : List Nat)))
    (dss_cons (ds_if (dt_not (dt_val (d_isE ec hz hf hp rfl (hb_SkyError) (by rfl) y.b_isinstance (by rfl) (by rfl) m_SkyError (by decide) (d_var (pv 0) (by decide : ¬ 0 ∈ ([] : List Nat)))) (by intro _; rfl)))
    (dss_one (ds_ret d_str))
    dss_nil)
    (dss_one (ds_ret (d_ix ix_seq o_ix (d_var (pv 1) (by decide : ¬ 1 ∈ ([] : List Nat))) (d_index (d_var (pv 2) (by decide : ¬ 2 ∈ ([] : List Nat))) d_bl) fun _ _ => rfl))))))))
def nmOf (c : Nat) : Option Str := if c < 7 then (match f_law_class c [errD] with
  | some (.ok (.str nm)) => some nm
  | _ => none) else none
noncomputable def gcl (k : Cl) (v : Value) : List PyData → Option Rs := open Classical in if h : ∃ c, c < 7 ∧ v = .ref (k.ec c) then f_law_class h.choose else fun _ => none
theorem gcl_at (y : Hy K mg base fd k) {c : Nat} (hc : c < 7) : gcl k (.ref (k.ec c)) = f_law_class c := by
  have h : ∃ c', c' < 7 ∧ Value.ref (k.ec c) = .ref (k.ec c') := ⟨c, hc, rfl⟩
  unfold gcl
  rw [dif_pos h]
  have e := h.choose_spec
  exact congrArg f_law_class (y.inj c h.choose hc e.1 (Value.ref.inj e.2)).symm
theorem gcl_no {v : Value} (h : ¬ ∃ c, c < 7 ∧ v = .ref (k.ec c)) : gcl k v = fun _ => none := by
  unfold gcl
  rw [dif_neg h]
def cp_law_do_1 : Dt → Option PyData := (lcD [2] (listI (b2 ixD (vr 1) (cD (.int 2)))) (setD 2) (fun _ => some true) (vr 2))
def h_law_do : Dt → Option Out := (stTry nmOf "raised"
  (sq (stIf (tB (b2 eqD (b2 ixD (vr 1) (cD (.int 0))) (cD (.str "go"))))
  (stRetE (eMeth 0 "go" 2 f_Console_go (aCons (b2 ixD (vr 1) (cD (.int 1))) aNil)))
  stNx)
  (sq (stIf (tB (b2 eqD (b2 ixD (vr 1) (cD (.int 0))) (cD (.str "wish"))))
  (stRetE (eMeth 0 "wish" 3 f_Console_wish (aCons (b2 ixD (vr 1) (cD (.int 1))) (aCons (asL cp_law_do_1) aNil))))
  stNx)
  (sq (stIf (tB (b2 eqD (b2 ixD (vr 1) (cD (.int 0))) (cD (.str "promise"))))
  (stRetE (eMeth 0 "promise" 2 f_Console_promise (aCons (b2 ixD (vr 1) (cD (.int 1))) aNil)))
  stNx)
  (sq (stIf (tB (b2 eqD (b2 ixD (vr 1) (cD (.int 0))) (cD (.str "release"))))
  (stRetE (eMeth 0 "release" 2 f_Console_release (aCons (b2 ixD (vr 1) (cD (.int 1))) aNil)))
  stNx)
  (sq (stIf (tB (b2 eqD (b2 ixD (vr 1) (cD (.int 0))) (cD (.str "lose"))))
  (stRetE (eMeth 0 "lose" 2 f_Console_lose (aCons (b2 ixD (vr 1) (cD (.int 1))) aNil)))
  stNx)
  (sq (stIf (tB (b2 eqD (b2 ixD (vr 1) (cD (.int 0))) (cD (.str "undo"))))
  noOut
  stNx)
  noOut)))))))
def f_law_do : List (PyData × PyData) → List PyData → Option Rm := runM ["_law_console", "_law_deed_here", "_law_look", "e"] h_law_do
theorem ok_law_do {w : World} (y : Hy K mg base fd k) : FnOk Pg w K mg base (L2.CX Pg w) 13 (A_law_do K) (fd 50) ["_law_console", "_law_deed_here"] (spM k 2 f_law_do) := by
  have nd := (sc_law_do).nd
  obtain ⟨C_SkyError, m_SkyError, hb_SkyError, hx_SkyError⟩ := y.m_SkyError
  refine okM (lv := 12) (h := h_law_do) [0] y.F_law_do sc_law_do fun cdv A outer s H E p F0 H0 hr => ?_
  refine dss_one (ds_try (C0 := C_SkyError) (i := 3) (n := "e") (tx := "raised") (nmOf := nmOf) (g := gcl k) rfl rfl nd rfl rfl ⟨by rfl, by decide, .inl m_SkyError⟩ (takes_of rfl rfl rfl rfl) (fun E' pn xe tk po => ?_) (fun c nm hn => ?_) (fun a oe cls dd pn hz hf => ?_) fun σ hl => by rw [hl]; exact (by decide : 3 < 4))
  · exact (dss_cons (ds_if (dt_cmp (op_eqD hr.units) o_eqD (d_ix ix_seq o_ix (d_var (pv 1) (by decide : ¬ 1 ∈ ([0] : List Nat))) d_int fun _ _ => rfl) d_str (nomark _))
    (dss_one (ds_retE (e_meth (ok_Console_go y) tk (by decide : 0 ∈ ([0] : List Nat)) (pv 0) y.cO y.M_go (hr.mono (by decide : 12 ≤ 12)) (b_Console_go y) (da_cons (d_ix ix_seq o_ix (d_var (pv 1) (by decide : ¬ 1 ∈ ([0] : List Nat))) d_int fun _ _ => rfl) da_nil))))
    dss_nil)
    (dss_cons (ds_if (dt_cmp (op_eqD hr.units) o_eqD (d_ix ix_seq o_ix (d_var (pv 1) (by decide : ¬ 1 ∈ ([0] : List Nat))) d_int fun _ _ => rfl) d_str (nomark _))
    (dss_one (ds_retE (e_meth (ok_Console_wish y) tk (by decide : 0 ∈ ([0] : List Nat)) (pv 0) y.cO y.M_wish (hr.mono (by decide : 12 ≤ 12)) (b_Console_wish y) (da_cons (d_ix ix_seq o_ix (d_var (pv 1) (by decide : ¬ 1 ∈ ([0] : List Nat))) d_int fun _ _ => rfl) (da_cons (d_ofN (dn_lc (own := [("_law_look", 2)]) rfl nd (di_weak (di_list (d_ix ix_seq o_ix (d_var (pv 1) (by decide : ¬ 1 ∈ ([0] : List Nat))) d_int fun _ _ => rfl))) (blkOk_by (N := ["_law_console", "_law_deed_here", "_law_look", "e"]) (sc := defScope st_law_do) (by decide +kernel)) (fun _ _ _ _ _ => (dg_name (pg_name nd (i := 2) rfl (Or.inl rfl)) (by decide : ¬ 2 ∈ ([0] : List Nat)))) (fun _ _ _ _ _ => dts_nil) (fun _ _ _ _ _ => (d_var (pv 2) (by decide : ¬ 2 ∈ ([0] : List Nat)))))) da_nil)))))
    dss_nil)
    (dss_cons (ds_if (dt_cmp (op_eqD hr.units) o_eqD (d_ix ix_seq o_ix (d_var (pv 1) (by decide : ¬ 1 ∈ ([0] : List Nat))) d_int fun _ _ => rfl) d_str (nomark _))
    (dss_one (ds_retE (e_meth (ok_Console_promise y) tk (by decide : 0 ∈ ([0] : List Nat)) (pv 0) y.cO y.M_promise (hr.mono (by decide : 12 ≤ 12)) (b_Console_promise y) (da_cons (d_ix ix_seq o_ix (d_var (pv 1) (by decide : ¬ 1 ∈ ([0] : List Nat))) d_int fun _ _ => rfl) da_nil))))
    dss_nil)
    (dss_cons (ds_if (dt_cmp (op_eqD hr.units) o_eqD (d_ix ix_seq o_ix (d_var (pv 1) (by decide : ¬ 1 ∈ ([0] : List Nat))) d_int fun _ _ => rfl) d_str (nomark _))
    (dss_one (ds_retE (e_meth (ok_Console_release y) tk (by decide : 0 ∈ ([0] : List Nat)) (pv 0) y.cO y.M_release (hr.mono (by decide : 12 ≤ 12)) (b_Console_release y) (da_cons (d_ix ix_seq o_ix (d_var (pv 1) (by decide : ¬ 1 ∈ ([0] : List Nat))) d_int fun _ _ => rfl) da_nil))))
    dss_nil)
    (dss_cons (ds_if (dt_cmp (op_eqD hr.units) o_eqD (d_ix ix_seq o_ix (d_var (pv 1) (by decide : ¬ 1 ∈ ([0] : List Nat))) d_int fun _ _ => rfl) d_str (nomark _))
    (dss_one (ds_retE (e_meth (ok_Console_lose y) tk (by decide : 0 ∈ ([0] : List Nat)) (pv 0) y.cO y.M_lose (hr.mono (by decide : 12 ≤ 12)) (b_Console_lose y) (da_cons (d_ix ix_seq o_ix (d_var (pv 1) (by decide : ¬ 1 ∈ ([0] : List Nat))) d_int fun _ _ => rfl) da_nil))))
    dss_nil)
    (dss_cons (ds_if (dt_cmp (op_eqD hr.units) o_eqD (d_ix ix_seq o_ix (d_var (pv 1) (by decide : ¬ 1 ∈ ([0] : List Nat))) d_int fun _ _ => rfl) d_str (nomark _))
    (dss_one ds_dead)
    dss_nil)
    (dss_one ds_dead)))))))
  · unfold nmOf at hn
    split at hn
    · rename_i hc
      refine ⟨hx_SkyError c hc, ?_⟩
      show gcl k (.ref (k.ec c)) [errD] = _
      rw [gcl_at y hc]
      split at hn
      · rename_i e
        cases hn
        exact e
      · cases hn
    · cases hn
  · by_cases h : ∃ c, c < 7 ∧ cls = .ref (k.ec c)
    · obtain ⟨c, hc, rfl⟩ := h
      have G : FnW Pg w K mg base (L2.CX Pg w) 2 (A_law_class K) (fd 49) ["_law_error"] (k.ec c) a dd (spW k.T (gcl k (.ref (k.ec c))) a dd) := by
        rw [gcl_at y hc]
        exact ok_law_class y hc
      exact suite_ret (i := 3) (y := "_law_error") G ((roomH_of hr).mono (by decide : 2 ≤ 12)) hz hf (by rfl) y.m_law_class y.F_law_class.kp (b_law_class y) (pv 3) pe_str
    · refine ⟨fun pins s1 σ1 H1 D I ⟨_, _, nm, hg, _⟩ => ?_⟩
      rw [gcl_no h] at hg
      cases hg
def lp_law_lost_1 : Dt → Option Out := (stE (eMeth 1 "promise" 2 f_Console_promise (aCons (vr 2) aNil)))
def h_law_lost : Dt → Option Out := (sq (stSet 1 (bA (mkO 2 f_Console___init__) (aCons (bA (fun l => (szOk l).map .tuple) (aCons (asL (bA (fun l => (szOk l).map .list) (aCons (bA (fun l => (szOk l).map .tuple) (aCons (cD (.int 0)) (aCons (cD (.int 0)) (aCons (cD (.int 1)) (aCons (cD (.int 0)) (aCons (cD (.int 4)) aNil)))))) (aCons (bA (fun l => (szOk l).map .tuple) (aCons (cD (.int 1)) (aCons (cD (.int 5)) (aCons (cD (.int 1)) (aCons (cD (.int 0)) (aCons (cD (.int 4)) aNil)))))) aNil)))) (aCons (asL (bA (fun l => (szOk l).map .list) (aCons (cD (.int 5)) (aCons (vr 0) aNil)))) (aCons (asL (bA (fun l => (szOk l).map .list) (aCons (bA (fun l => (szOk l).map .tuple) (aCons (cD (.int 2)) (aCons (cD (.int 5)) (aCons (cD (.int 1)) aNil)))) aNil))) (aCons (cD (.int 6)) (aCons (cD (.int 30)) aNil)))))) aNil)))
  (sq (stFor (rng1 (aCons (cD (.int 2)) aNil)) (setD 2) lp_law_lost_1)
  (stRetE (eAnd (eCmp eqD (eMeth 1 "lose" 2 f_Console_lose (aCons (cD (.int 0)) aNil)) (asL (bA (fun l => (szOk l).map .list) (aCons (cD (.int 1)) aNil)))) (gOwn [1] (b2 eqD (fMeth "promises" f_Console_promises (vr 1)) (asL (bA (fun l => (szOk l).map .list) (aCons (cD (.int 0)) aNil)))))))))
def f_law_lost : List PyData → Option Rs := runP ["_law_worth_here", "_law_console", "_law_wish"] h_law_lost
theorem ok_law_lost {w : World} (y : Hy K mg base fd k) : FnOk Pg w K mg base (L2.CX Pg w) 14 (A_law_lost K) (fd 51) ["_law_worth_here"] (spP k 1 f_law_lost) := by
  have nd := (sc_law_lost).nd
  refine okP (lv := 13) (h := h_law_lost) [1] y.F_law_lost sc_law_lost fun cdv A outer s H E F0 H0 hr => ?_
  exact (dss_cons (ds_newO nd (i := 1) rfl (Or.inl rfl) y.mkO (ok_Console___init__ y) (hr.mono (by decide : 13 ≤ 13)) (by rfl) y.m_Console (b_Console___init__ y) (da_cons (d_tup (da_cons (d_ofN (dn_lst (da_cons (d_tup (da_cons d_int (da_cons d_int (da_cons d_int (da_cons d_int (da_cons d_int da_nil)))))) (da_cons (d_tup (da_cons d_int (da_cons d_int (da_cons d_int (da_cons d_int (da_cons d_int da_nil)))))) da_nil)))) (da_cons (d_ofN (dn_lst (da_cons d_int (da_cons (d_var (pv 0) (by decide : ¬ 0 ∈ ([1] : List Nat))) da_nil)))) (da_cons (d_ofN (dn_lst (da_cons (d_tup (da_cons d_int (da_cons d_int (da_cons d_int da_nil)))) da_nil))) (da_cons d_int (da_cons d_int da_nil)))))) da_nil) (by decide : 1 ∈ ([1] : List Nat)) (.inl (by decide)))
    (dss_cons (ds_for (passes_of rfl) rfl (di_rng1 (by rfl) y.b_range (da_cons d_int da_nil)) (dg_name (pg_name nd (i := 2) rfl (Or.inl rfl)) (by decide : ¬ 2 ∈ ([1] : List Nat)))
    (dss_one (ds_exprE (e_meth (ok_Console_promise y) (takes_of rfl rfl rfl rfl) (by decide : 1 ∈ ([1] : List Nat)) (pv 1) y.cO y.M_promise (hr.mono (by decide : 12 ≤ 13)) (b_Console_promise y) (da_cons (d_var (pv 2) (by decide : ¬ 2 ∈ ([1] : List Nat))) da_nil)))) (by decide : ∀ j ∈ ([2] : List Nat), j ∉ ([1] : List Nat)))
    (dss_one (ds_retE (e_and (e_cmp (op_eqD hr.units) o_eqD (e_meth (ok_Console_lose y) (takes_of rfl rfl rfl rfl) (by decide : 1 ∈ ([1] : List Nat)) (pv 1) y.cO y.M_lose (hr.mono (by decide : 12 ≤ 13)) (b_Console_lose y) (da_cons d_int da_nil)) (d_ofN (dn_lst (da_cons d_int da_nil))) (nomark _)) (d_one (d_frzO y.SO (d_cmp (op_eqD hr.units) o_eqD (d_meth0 (ok_Console_promises y) (d_var (pv 1) (by decide : ¬ 1 ∈ ([] : List Nat))) y.cO y.M_promises (hr.mono (by decide : 2 ≤ 13)) (b_Console_promises y)) (d_ofN (dn_lst (da_cons d_int da_nil))) (nomark _)))))))))
def cp_law_1 : Dt → Option PyData := (lcD [12] (listI (b2 ixD (vr 5) (cD (.int 3)))) (setD 12) (tB (b2 notInD (vr 12) (b2 ixD (vr 10) (cD (.int 3))))) (vr 12))
def lp_law_1 : Dt → Option Out := (sq (stSet 5 (gOwn [3] (bA (fun l => (szOk l).map .tuple) (aCons (fMeth "sky" f_Console_sky (vr 3)) (aCons (fProp f_Console_now (vr 3)) (aCons (fMeth "begun" f_Console_begun (vr 3)) (aCons (fMeth "promises" f_Console_promises (vr 3)) aNil)))))))
  (sq (stPar 6 7 (aCons (gOwn [3] (fMeth "plan" f_Console_plan (vr 3))) (aCons (gOwn [3] (fMeth "worth" f_Console_worth (vr 3))) aNil)))
  (sq (stSet 8 (bA (gN 2 f_law_deed) (aCons (vr 5) (aCons (asL (slD (vr 1) (tPt (some (b2 addI (cD (.int 51)) (b2 mulI (cD (.int 7)) (vr 4))))) (tPt (some (b2 addI (cD (.int 58)) (b2 mulI (cD (.int 7)) (vr 4))))))) aNil))))
  (sq (stSetE 9 (eMeth 3 "" 2 f_law_do (aCons (vr 8) aNil)))
  (sq (stSet 10 (gOwn [3] (bA (fun l => (szOk l).map .tuple) (aCons (fMeth "sky" f_Console_sky (vr 3)) (aCons (fProp f_Console_now (vr 3)) (aCons (fMeth "begun" f_Console_begun (vr 3)) (aCons (fMeth "promises" f_Console_promises (vr 3)) aNil)))))))
  (sq (stIf (tB (b1 (isTy tbTup) (vr 9)))
  (stIf (tOrD (tB (b2 neD (bA repG (aCons (vr 10) aNil)) (bA repG (aCons (vr 5) aNil)))) (tB (b2 neD (fMeth "plan" f_Console_plan (vr 3)) (vr 6))))
  (stRet (cD (.bool false)))
  stNx)
  (stIf (tB (b2 eqD (b2 ixD (vr 8) (cD (.int 0))) (cD (.str "go"))))
  (stIf (tOrD (tB (b2 neD (fMeth "plan" f_Console_plan (vr 3)) (vr 6))) (tOrD (tB (b2 neD (fMeth "begun" f_Console_begun (vr 3)) (asL (slD (vr 6) (tPt none) (tPt (some (bA lenD (aCons (b2 ixD (vr 10) (cD (.int 2))) aNil)))))))) (tB (b2 neD (fProp f_Console_now (vr 3)) (b2 ixD (vr 8) (cD (.int 1)))))))
  (stRet (cD (.bool false)))
  stNx)
  (stIf (tAndD (tB (b2 inD (b2 ixD (vr 8) (cD (.int 0))) (asL (bA (fun l => (szOk l).map .list) (aCons (cD (.str "wish")) (aCons (cD (.str "release")) aNil)))))) (tB (b2 ltI (fMeth "worth" f_Console_worth (vr 3)) (vr 7))))
  (stRet (cD (.bool false)))
  (stIf (tAndD (tB (b2 eqD (b2 ixD (vr 8) (cD (.int 0))) (cD (.str "promise")))) (tOrD (tB (b2 gtI (fMeth "worth" f_Console_worth (vr 3)) (vr 7))) (tB (b2 notInD (b2 ixD (vr 8) (cD (.int 1))) (b2 ixD (vr 10) (cD (.int 3)))))))
  (stRet (cD (.bool false)))
  (stIf (tAndD (tB (b2 eqD (b2 ixD (vr 8) (cD (.int 0))) (cD (.str "lose")))) (tAndD (tB (b2 eqD (vr 9) (asL (bA (fun l => (szOk l).map .list) aNil)))) (tB (b2 gtI (fMeth "worth" f_Console_worth (vr 3)) (vr 7)))))
  (stRet (cD (.bool false)))
  stNx)))))
  (sq (stSet 11 (asL cp_law_1))
  (sq (stIf (tOrD (tAndD (tB (b2 gtI (bA lenD (aCons (vr 11) aNil)) (cD (.int 0)))) (tB (b2 notInD (b2 ixD (vr 8) (cD (.int 0))) (asL (bA (fun l => (szOk l).map .list) (aCons (cD (.str "release")) (aCons (cD (.str "lose")) aNil))))))) (tAndD (tB (b2 eqD (b2 ixD (vr 8) (cD (.int 0))) (cD (.str "lose")))) (tAndD (tNotD (tB (b1 (isTy tbTup) (vr 9)))) (tB (b2 neD (vr 9) (vr 11))))))
  (stRet (cD (.bool false)))
  stNx)
  (sq (stSet 13 (bA (gN 1 f_law_best) (aCons (vr 10) aNil)))
  (sq (stIf (tOrD (tB (b2 isN (vr 13) (cD .none))) (tOrD (tB (b2 notInD (fMeth "plan" f_Console_plan (vr 3)) (bA (gN 3 f_law_plans_on) (aCons (b2 ixD (vr 10) (cD (.int 0))) (aCons (b2 ixD (vr 10) (cD (.int 1))) (aCons (b2 ixD (vr 10) (cD (.int 2))) aNil)))))) (tNotD (tB (bA (gN 3 f_law_keep) (aCons (b2 ixD (vr 10) (cD (.int 0))) (aCons (fMeth "plan" f_Console_plan (vr 3)) (aCons (b2 ixD (vr 10) (cD (.int 3))) aNil))))))))
  (stRet (cD (.bool false)))
  stNx)
  (stIf (tOrD (tB (b2 neD (fMeth "worth" f_Console_worth (vr 3)) (bA (gN 2 f_law_worth) (aCons (b2 ixD (vr 10) (cD (.int 0))) (aCons (vr 13) aNil))))) (tB (b2 neD (fMeth "worth" f_Console_worth (vr 3)) (bA (gN 2 f_law_worth) (aCons (b2 ixD (vr 10) (cD (.int 0))) (aCons (fMeth "plan" f_Console_plan (vr 3)) aNil))))))
  (stRet (cD (.bool false)))
  stNx)))))))))))
def h_law : Dt → Option Out := (sq (stSet 1 (bA (gN 2 f_law_draws) (aCons (vr 0) (aCons (cD (.int 115)) aNil))))
  (sq (stSet 2 (bA (gN 2 f_law_sky) (aCons (vr 1) (aCons (cD (.int 4)) aNil))))
  (sq (stSet 3 (bA (mkO 2 f_Console___init__) (aCons (vr 2) aNil)))
  (sq (stIf (tNotD (tB (bA (gN 1 f_law_lost) (aCons (b2 modI (bA toI (aCons (b2 ixD (vr 1) (cD (.int 114))) aNil)) (cD (.int 10))) aNil))))
  (stRet (cD (.bool false)))
  stNx)
  (sq (stFor (rng1 (aCons (b2 modI (bA toI (aCons (b2 ixD (vr 1) (cD (.int 50))) aNil)) (cD (.int 9))) aNil)) (setD 4) lp_law_1)
  (stRet (cD (.bool true))))))))
def f_law : List PyData → Option Rs := runP ["_law_script", "_law_draws_here", "_law_sky_here", "_law_console", "_law_k", "_law_before", "_law_plan", "_law_worth_here", "_law_deed_here", "_law_told", "_law_state", "_law_lost_here", "_law_wish", "_law_best_here"] h_law
theorem body_law {w : World} (y : Hy K mg base fd k) {cdv : Value} {A : Around} {outer : List Env} {s : Shared} {H : Hp} {E : XK} {F0 H0 : Hp} (hr : Room 14 (A.deeper (envOfC "law" (defScope st_law) s.heap.objs.size (A_law K) cdv))) (hg : (A.deeper (envOfC "law" (defScope st_law) s.heap.objs.size (A_law K) cdv)).guards = some []) :
    PSs (cxOf (L2.CX Pg w) Pg w K mg base ["_law_script", "_law_draws_here", "_law_sky_here", "_law_console", "_law_k", "_law_before", "_law_plan", "_law_worth_here", "_law_deed_here", "_law_told", "_law_state", "_law_lost_here", "_law_wish", "_law_best_here"] "law" (defScope st_law) (A_law K) cdv A outer s H E) (defBody st_law) (tS ⟨k, none, F0, H0, [3], E⟩ h_law) := by
  have nd := (sc_law).nd
  exact (dss_cons (ds_set (ps_set nd (i := 1) rfl (Or.inl rfl) (d_call (ok_law_draws y) (hr.mono (by decide : 1 ≤ 14)) (by rfl) y.m_law_draws y.F_law_draws.kp (b_law_draws y) (da_cons (d_var (pv 0) (by decide : ¬ 0 ∈ ([3] : List Nat))) (da_cons d_int da_nil)))) (by decide : ¬ 1 ∈ ([3] : List Nat)))
    (dss_cons (ds_set (ps_set nd (i := 2) rfl (Or.inl rfl) (d_call (ok_law_sky y) (hr.mono (by decide : 1 ≤ 14)) (by rfl) y.m_law_sky y.F_law_sky.kp (b_law_sky y) (da_cons (d_var (pv 1) (by decide : ¬ 1 ∈ ([3] : List Nat))) (da_cons d_int da_nil)))) (by decide : ¬ 2 ∈ ([3] : List Nat)))
    (dss_cons (ds_newO nd (i := 3) rfl (Or.inl rfl) y.mkO (ok_Console___init__ y) (hr.mono (by decide : 13 ≤ 14)) (by rfl) y.m_Console (b_Console___init__ y) (da_cons (d_var (pv 2) (by decide : ¬ 2 ∈ ([3] : List Nat))) da_nil) (by decide : 3 ∈ ([3] : List Nat)) (.inl (by decide)))
    (dss_cons (ds_if (dt_not (dt_val (d_call (ok_law_lost y) (hr.mono (by decide : 14 ≤ 14)) (by rfl) y.m_law_lost y.F_law_lost.kp (b_law_lost y) (da_cons (d_op op_mod o_mod (d_callTy call_int1 o_int (by rfl) y.b_int (by rfl) (da_cons (d_ix ix_seq o_ix (d_var (pv 1) (by decide : ¬ 1 ∈ ([3] : List Nat))) d_int fun _ _ => rfl) da_nil)) d_int) da_nil)) (by intro _; rfl)))
    (dss_one (ds_ret d_bl))
    dss_nil)
    (dss_cons (ds_for (passes_of rfl) rfl (di_rng1 (by rfl) y.b_range (da_cons (d_op op_mod o_mod (d_callTy call_int1 o_int (by rfl) y.b_int (by rfl) (da_cons (d_ix ix_seq o_ix (d_var (pv 1) (by decide : ¬ 1 ∈ ([3] : List Nat))) d_int fun _ _ => rfl) da_nil)) d_int) da_nil)) (dg_name (pg_name nd (i := 4) rfl (Or.inl rfl)) (by decide : ¬ 4 ∈ ([3] : List Nat)))
    (dss_cons (ds_set (ps_set nd (i := 5) rfl (Or.inl rfl) (d_frzO y.SO (d_tup (da_cons (d_meth0 (ok_Console_sky y) (d_var (pv 3) (by decide : ¬ 3 ∈ ([] : List Nat))) y.cO y.M_sky (hr.mono (by decide : 2 ≤ 14)) (b_Console_sky y)) (da_cons (d_prop (ok_Console_now y) (d_var (pv 3) (by decide : ¬ 3 ∈ ([] : List Nat))) y.cO y.p_now.choose_spec (hr.mono (by decide : 3 ≤ 14)) (b_Console_now y) passN) (da_cons (d_meth0 (ok_Console_begun y) (d_var (pv 3) (by decide : ¬ 3 ∈ ([] : List Nat))) y.cO y.M_begun (hr.mono (by decide : 2 ≤ 14)) (b_Console_begun y)) (da_cons (d_meth0 (ok_Console_promises y) (d_var (pv 3) (by decide : ¬ 3 ∈ ([] : List Nat))) y.cO y.M_promises (hr.mono (by decide : 2 ≤ 14)) (b_Console_promises y)) da_nil))))))) (by decide : ¬ 5 ∈ ([3] : List Nat)))
    (dss_cons (ds_par (ps_par rfl nd (i := 6) (j := 7) rfl rfl (by decide) rfl rfl (da_cons (d_frzO y.SO (d_meth0 (ok_Console_plan y) (d_var (pv 3) (by decide : ¬ 3 ∈ ([] : List Nat))) y.cO y.M_plan (hr.mono (by decide : 2 ≤ 14)) (b_Console_plan y))) (da_cons (d_frzO y.SO (d_meth0 (ok_Console_worth y) (d_var (pv 3) (by decide : ¬ 3 ∈ ([] : List Nat))) y.cO y.M_worth (hr.mono (by decide : 2 ≤ 14)) (b_Console_worth y))) da_nil)) (by kernel_rfl)) (by decide : ¬ 6 ∈ ([3] : List Nat)) (by decide : ¬ 7 ∈ ([3] : List Nat)))
    (dss_cons (ds_set (ps_set nd (i := 8) rfl (Or.inl rfl) (d_call (ok_law_deed y) (hr.mono (by decide : 1 ≤ 14)) (by rfl) y.m_law_deed y.F_law_deed.kp (b_law_deed y) (da_cons (d_var (pv 5) (by decide : ¬ 5 ∈ ([3] : List Nat))) (da_cons (d_ofN (dn_slice (d_var (pv 1) (by decide : ¬ 1 ∈ ([3] : List Nat))) (do_some (d_op op_add o_add d_int (d_op op_mul o_mul d_int (d_var (pv 4) (by decide : ¬ 4 ∈ ([3] : List Nat)))))) (do_some (d_op op_add o_add d_int (d_op op_mul o_mul d_int (d_var (pv 4) (by decide : ¬ 4 ∈ ([3] : List Nat)))))))) da_nil)))) (by decide : ¬ 8 ∈ ([3] : List Nat)))
    (dss_cons (ds_setE (ps_set nd (i := 9) rfl (Or.inl rfl) (e_callO (ok_law_do y) (takes_of rfl rfl rfl rfl) (pv 3) (hr.mono (by decide : 13 ≤ 14)) (by rfl) y.m_law_do y.F_law_do.kp (b_law_do y) (da_cons (d_var (pv 8) (by decide : ¬ 8 ∈ ([3] : List Nat))) da_nil) (by decide : 3 ∈ ([3] : List Nat)))) (by decide : ¬ 9 ∈ ([3] : List Nat)))
    (dss_cons (ds_set (ps_set nd (i := 10) rfl (Or.inr rfl) (d_frzO y.SO (d_tup (da_cons (d_meth0 (ok_Console_sky y) (d_var (pv 3) (by decide : ¬ 3 ∈ ([] : List Nat))) y.cO y.M_sky (hr.mono (by decide : 2 ≤ 14)) (b_Console_sky y)) (da_cons (d_prop (ok_Console_now y) (d_var (pv 3) (by decide : ¬ 3 ∈ ([] : List Nat))) y.cO y.p_now.choose_spec (hr.mono (by decide : 3 ≤ 14)) (b_Console_now y) passN) (da_cons (d_meth0 (ok_Console_begun y) (d_var (pv 3) (by decide : ¬ 3 ∈ ([] : List Nat))) y.cO y.M_begun (hr.mono (by decide : 2 ≤ 14)) (b_Console_begun y)) (da_cons (d_meth0 (ok_Console_promises y) (d_var (pv 3) (by decide : ¬ 3 ∈ ([] : List Nat))) y.cO y.M_promises (hr.mono (by decide : 2 ≤ 14)) (b_Console_promises y)) da_nil))))))) (by decide : ¬ 10 ∈ ([3] : List Nat)))
    (dss_cons (ds_if (dt_val (d_isi (by rfl) y.b_isinstance (by rfl) (by rfl) y.b_tuple (by rfl) (by decide) (by decide) tbTup_ok (d_var (pv 9) (by decide : ¬ 9 ∈ ([3] : List Nat)))) (by intro _; rfl))
    (dss_one (ds_if (dt_frz (PW.pt (dw_or (dt_cmp (op_neD hr.units) o_neD (d_callB (cr_rep hg hr.units) o_rep (by rfl) y.b_repr (by rfl) (da_cons (d_var (pv 10) (by decide : ¬ 10 ∈ ([] : List Nat))) da_nil)) (d_callB (cr_rep hg hr.units) o_rep (by rfl) y.b_repr (by rfl) (da_cons (d_var (pv 5) (by decide : ¬ 5 ∈ ([] : List Nat))) da_nil)) (nomark _)) (dw_or1 (dt_cmp (op_neD hr.units) o_neD (d_meth0 (ok_Console_plan y) (d_var (pv 3) (by decide : ¬ 3 ∈ ([] : List Nat))) y.cO y.M_plan (hr.mono (by decide : 2 ≤ 14)) (b_Console_plan y)) (d_var (pv 6) (by decide : ¬ 6 ∈ ([] : List Nat))) (nomark _))))))
    (dss_one (ds_ret d_bl))
    dss_nil))
    (dss_one (ds_if (dt_cmp (op_eqD hr.units) o_eqD (d_ix ix_seq o_ix (d_var (pv 8) (by decide : ¬ 8 ∈ ([3] : List Nat))) d_int fun _ _ => rfl) d_str (nomark _))
    (dss_one (ds_if (dt_frz (PW.pt (dw_or (dt_cmp (op_neD hr.units) o_neD (d_meth0 (ok_Console_plan y) (d_var (pv 3) (by decide : ¬ 3 ∈ ([] : List Nat))) y.cO y.M_plan (hr.mono (by decide : 2 ≤ 14)) (b_Console_plan y)) (d_var (pv 6) (by decide : ¬ 6 ∈ ([] : List Nat))) (nomark _)) (dw_or (dt_cmp (op_neD hr.units) o_neD (d_meth0 (ok_Console_begun y) (d_var (pv 3) (by decide : ¬ 3 ∈ ([] : List Nat))) y.cO y.M_begun (hr.mono (by decide : 2 ≤ 14)) (b_Console_begun y)) (d_ofN (dn_slice (d_var (pv 6) (by decide : ¬ 6 ∈ ([] : List Nat))) do_none (do_some (d_callB call_len_seq o_len (by rfl) y.b_len (by rfl) (da_cons (d_ix ix_seq o_ix (d_var (pv 10) (by decide : ¬ 10 ∈ ([] : List Nat))) d_int fun _ _ => rfl) da_nil))))) (nomark _)) (dw_or1 (dt_cmp (op_neD hr.units) o_neD (d_prop (ok_Console_now y) (d_var (pv 3) (by decide : ¬ 3 ∈ ([] : List Nat))) y.cO y.p_now.choose_spec (hr.mono (by decide : 3 ≤ 14)) (b_Console_now y) passN) (d_ix ix_seq o_ix (d_var (pv 8) (by decide : ¬ 8 ∈ ([] : List Nat))) d_int fun _ _ => rfl) (nomark _)))))))
    (dss_one (ds_ret d_bl))
    dss_nil))
    (dss_one (ds_if (dt_frz (PW.pt (dw_and (dt_cmp (op_inD (u65 hr)) o_inD (d_ix ix_seq o_ix (d_var (pv 8) (by decide : ¬ 8 ∈ ([] : List Nat))) d_int fun _ _ => rfl) (d_ofN (dn_lst (da_cons d_str (da_cons d_str da_nil)))) rfl) (dw_and1 (dt_cmp op_lt o_lt (d_meth0 (ok_Console_worth y) (d_var (pv 3) (by decide : ¬ 3 ∈ ([] : List Nat))) y.cO y.M_worth (hr.mono (by decide : 2 ≤ 14)) (b_Console_worth y)) (d_var (pv 7) (by decide : ¬ 7 ∈ ([] : List Nat))) (nomark _))))))
    (dss_one (ds_ret d_bl))
    (dss_one (ds_if (dt_frz (PW.pt (dw_and (dt_cmp (op_eqD hr.units) o_eqD (d_ix ix_seq o_ix (d_var (pv 8) (by decide : ¬ 8 ∈ ([] : List Nat))) d_int fun _ _ => rfl) d_str (nomark _)) (dw_and1 (PW.pt (dw_or (dt_cmp op_gt o_gt (d_meth0 (ok_Console_worth y) (d_var (pv 3) (by decide : ¬ 3 ∈ ([] : List Nat))) y.cO y.M_worth (hr.mono (by decide : 2 ≤ 14)) (b_Console_worth y)) (d_var (pv 7) (by decide : ¬ 7 ∈ ([] : List Nat))) (nomark _)) (dw_or1 (dt_cmp (op_notInD (u65 hr)) o_notInD (d_ix ix_seq o_ix (d_var (pv 8) (by decide : ¬ 8 ∈ ([] : List Nat))) d_int fun _ _ => rfl) (d_ix ix_seq o_ix (d_var (pv 10) (by decide : ¬ 10 ∈ ([] : List Nat))) d_int fun _ _ => rfl) rfl))))))))
    (dss_one (ds_ret d_bl))
    (dss_one (ds_if (dt_frz (PW.pt (dw_and (dt_cmp (op_eqD hr.units) o_eqD (d_ix ix_seq o_ix (d_var (pv 8) (by decide : ¬ 8 ∈ ([] : List Nat))) d_int fun _ _ => rfl) d_str (nomark _)) (dw_and (dt_cmp (op_eqD hr.units) o_eqD (d_var (pv 9) (by decide : ¬ 9 ∈ ([] : List Nat))) (d_ofN (dn_lst da_nil)) (nomark _)) (dw_and1 (dt_cmp op_gt o_gt (d_meth0 (ok_Console_worth y) (d_var (pv 3) (by decide : ¬ 3 ∈ ([] : List Nat))) y.cO y.M_worth (hr.mono (by decide : 2 ≤ 14)) (b_Console_worth y)) (d_var (pv 7) (by decide : ¬ 7 ∈ ([] : List Nat))) (nomark _)))))))
    (dss_one (ds_ret d_bl))
    dss_nil)))))))))
    (dss_cons (ds_set (das_ofN (das_lc (i := 11) (own := [("_law_wish", 12)]) rfl nd rfl rfl (sw_true rfl rfl rfl (by decide +kernel)) (di_weak (di_list (d_ix ix_seq o_ix (d_var (pv 5) (by decide : ¬ 5 ∈ ([3] : List Nat))) d_int fun _ _ => rfl))) (blkOk_by (N := ["_law_script", "_law_draws_here", "_law_sky_here", "_law_console", "_law_k", "_law_before", "_law_plan", "_law_worth_here", "_law_deed_here", "_law_told", "_law_state", "_law_lost_here", "_law_wish", "_law_best_here"]) (sc := defScope st_law) (by decide +kernel)) (fun _ _ _ _ _ => (dg_name (pg_name nd (i := 12) rfl (Or.inl rfl)) (by decide : ¬ 12 ∈ ([3] : List Nat)))) (fun _ _ _ _ _ => dts_one (dt_cmp (op_notInD (u65 hr)) o_notInD (d_var (pv 12) (by decide : ¬ 12 ∈ ([3] : List Nat))) (d_ix ix_seq o_ix (d_var (pv 10) (by decide : ¬ 10 ∈ ([3] : List Nat))) d_int fun _ _ => rfl) rfl)) (fun _ _ _ _ _ => (d_var (pv 12) (by decide : ¬ 12 ∈ ([3] : List Nat)))))) (by decide : ¬ 11 ∈ ([3] : List Nat)))
    (dss_cons (ds_if (PW.pt (dw_or (PW.pt (dw_and (dt_cmp op_gt o_gt (d_callB call_len_seq o_len (by rfl) y.b_len (by rfl) (da_cons (d_var (pv 11) (by decide : ¬ 11 ∈ ([3] : List Nat))) da_nil)) d_int (nomark _)) (dw_and1 (dt_cmp (op_notInD (u65 hr)) o_notInD (d_ix ix_seq o_ix (d_var (pv 8) (by decide : ¬ 8 ∈ ([3] : List Nat))) d_int fun _ _ => rfl) (d_ofN (dn_lst (da_cons d_str (da_cons d_str da_nil)))) rfl)))) (dw_or1 (PW.pt (dw_and (dt_cmp (op_eqD hr.units) o_eqD (d_ix ix_seq o_ix (d_var (pv 8) (by decide : ¬ 8 ∈ ([3] : List Nat))) d_int fun _ _ => rfl) d_str (nomark _)) (dw_and (dt_not (dt_val (d_isi (by rfl) y.b_isinstance (by rfl) (by rfl) y.b_tuple (by rfl) (by decide) (by decide) tbTup_ok (d_var (pv 9) (by decide : ¬ 9 ∈ ([3] : List Nat)))) (by intro _; rfl))) (dw_and1 (dt_cmp (op_neD hr.units) o_neD (d_var (pv 9) (by decide : ¬ 9 ∈ ([3] : List Nat))) (d_var (pv 11) (by decide : ¬ 11 ∈ ([3] : List Nat))) (nomark _)))))))))
    (dss_one (ds_ret d_bl))
    dss_nil)
    (dss_cons (ds_set (ps_set nd (i := 13) rfl (Or.inl rfl) (d_call (ok_law_best y) (hr.mono (by decide : 4 ≤ 14)) (by rfl) y.m_law_best y.F_law_best.kp (b_law_best y) (da_cons (d_var (pv 10) (by decide : ¬ 10 ∈ ([3] : List Nat))) da_nil))) (by decide : ¬ 13 ∈ ([3] : List Nat)))
    (dss_cons (ds_if (dt_frz (PW.pt (dw_or (dt_cmp op_isN o_isN (d_var (pv 13) (by decide : ¬ 13 ∈ ([] : List Nat))) d_non (nomark _)) (dw_or (dt_cmp (op_notInD (u65 hr)) o_notInD (d_meth0 (ok_Console_plan y) (d_var (pv 3) (by decide : ¬ 3 ∈ ([] : List Nat))) y.cO y.M_plan (hr.mono (by decide : 2 ≤ 14)) (b_Console_plan y)) (d_call (ok_law_plans_on y) (hr.mono (by decide : 3 ≤ 14)) (by rfl) y.m_law_plans_on y.F_law_plans_on.kp (b_law_plans_on y) (da_cons (d_ix ix_seq o_ix (d_var (pv 10) (by decide : ¬ 10 ∈ ([] : List Nat))) d_int fun _ _ => rfl) (da_cons (d_ix ix_seq o_ix (d_var (pv 10) (by decide : ¬ 10 ∈ ([] : List Nat))) d_int fun _ _ => rfl) (da_cons (d_ix ix_seq o_ix (d_var (pv 10) (by decide : ¬ 10 ∈ ([] : List Nat))) d_int fun _ _ => rfl) da_nil)))) rfl) (dw_or1 (dt_not (dt_val (d_call (ok_law_keep y) (hr.mono (by decide : 1 ≤ 14)) (by rfl) y.m_law_keep y.F_law_keep.kp (b_law_keep y) (da_cons (d_ix ix_seq o_ix (d_var (pv 10) (by decide : ¬ 10 ∈ ([] : List Nat))) d_int fun _ _ => rfl) (da_cons (d_meth0 (ok_Console_plan y) (d_var (pv 3) (by decide : ¬ 3 ∈ ([] : List Nat))) y.cO y.M_plan (hr.mono (by decide : 2 ≤ 14)) (b_Console_plan y)) (da_cons (d_ix ix_seq o_ix (d_var (pv 10) (by decide : ¬ 10 ∈ ([] : List Nat))) d_int fun _ _ => rfl) da_nil)))) (by intro _; rfl))))))))
    (dss_one (ds_ret d_bl))
    dss_nil)
    (dss_one (ds_if (dt_frz (PW.pt (dw_or (dt_cmp (op_neD hr.units) o_neD (d_meth0 (ok_Console_worth y) (d_var (pv 3) (by decide : ¬ 3 ∈ ([] : List Nat))) y.cO y.M_worth (hr.mono (by decide : 2 ≤ 14)) (b_Console_worth y)) (d_call (ok_law_worth y) (hr.mono (by decide : 1 ≤ 14)) (by rfl) y.m_law_worth y.F_law_worth.kp (b_law_worth y) (da_cons (d_ix ix_seq o_ix (d_var (pv 10) (by decide : ¬ 10 ∈ ([] : List Nat))) d_int fun _ _ => rfl) (da_cons (d_var (pv 13) (by decide : ¬ 13 ∈ ([] : List Nat))) da_nil))) (nomark _)) (dw_or1 (dt_cmp (op_neD hr.units) o_neD (d_meth0 (ok_Console_worth y) (d_var (pv 3) (by decide : ¬ 3 ∈ ([] : List Nat))) y.cO y.M_worth (hr.mono (by decide : 2 ≤ 14)) (b_Console_worth y)) (d_call (ok_law_worth y) (hr.mono (by decide : 1 ≤ 14)) (by rfl) y.m_law_worth y.F_law_worth.kp (b_law_worth y) (da_cons (d_ix ix_seq o_ix (d_var (pv 10) (by decide : ¬ 10 ∈ ([] : List Nat))) d_int fun _ _ => rfl) (da_cons (d_meth0 (ok_Console_plan y) (d_var (pv 3) (by decide : ¬ 3 ∈ ([] : List Nat))) y.cO y.M_plan (hr.mono (by decide : 2 ≤ 14)) (b_Console_plan y)) da_nil))) (nomark _))))))
    (dss_one (ds_ret d_bl))
    dss_nil)))))))))))) (by decide : ∀ j ∈ ([4] : List Nat), j ∉ ([3] : List Nat)))
    (dss_one (ds_ret d_bl)))))))
end
end Sk
set_option Elab.async false
set_option linter.all false
set_option maxRecDepth 100000
set_option maxHeartbeats 4000000
/-! The script, which stays as it is: it is read once. Printed by wk6.py. -/
namespace Sk
open PySem PySem.Spec PyProof.Rows L2 Dl PySem.SkyX
section
variable {X : Cx} {k : Cl} {ow : List Nat} {fc : Fc} {ns : List Int} {st : Stmt} {rest : List Stmt} {f g : Dt → Option Out} {fa : Dt → Option PyData}
/-- slot 0 holds the script -/
def Scr (K : PySem.W.Frag) (ns : List Int) (σ : L2.St) (H : Hp) : Prop := ∃ a, σ[0]? = some (some (.ref a)) ∧ SqL K H a (ns.map V.int)
theorem scr_gr {K : PySem.W.Frag} {T : Tb} {H H' : Hp} {a : Addr} {xs : List V} (z : SqL K H a xs) (c : Gr T H H') : SqL K H' a xs := by
  rcases z with (z | ⟨o, z⟩) | z
  · exact .inl (.inl (c.g z))
  · exact .inl (.inr ⟨o, c.g z⟩)
  · exact .inr z
theorem rpa_ints {F : Hp} : ∀ ns : List Int, RpA k F (ns.map V.int) (ns.map .int)
  | [] => .nil
  | i :: ns => .cons (.int i) (rpa_ints ns)
theorem di_scr {tg e : Expr} (h : PE X e (tVar 0)) : PI X tg e (fun σ H R => Scr X.K ns σ H ∧ tIw k ow (fun _ => some (ns.map .int)) σ H R) := pi_imp (pi_list h) fun σ H R ⟨⟨a, e1, z⟩, me, H0, F, δ, ds, ex, x, hf, q⟩ => by
  cases hf
  refine ⟨_, e1, a, rfl, ⟨_, z⟩, q _ F H (.refl ex) fun i H2 F2 c1 c2 c3 => ⟨fun d hd => ?_, fun hl => ⟨_, scr_gr z c3, by rw [List.length_map] at hl ⊢; exact hl⟩⟩⟩
  obtain ⟨v, h1, h2⟩ := (rpa_ints (k := k) (F := F2) ns).getD hd
  refine ⟨⟨_, v, scr_gr z c3, h1⟩, fun x H' ⟨eh, hx⟩ => ?_⟩
  subst eh
  have z2 := hx _ (scr_gr z c3)
  rw [h1] at z2
  cases z2
  exact ⟨F2, .refl c2, h2⟩
theorem das_scr {i : Nat} {y : Str} {py : Pos} {elt tg iter : Expr} {scope : Scope} {own : List (Str × Nat)} {pos spos : Pos} {h : PyData → Dt → Option Dt} {te : Dt → Option PyData} {js : List Nat} (hi : PE X iter (tVar 0)) (hc : X.calm = true) (hN : X.N.Nodup) (hy : X.N[i]? = some y) (hyl : X.env.scope.names.lookup y = some .local)
    (hsw : swapsWith (.ListComp elt [⟨tg, iter, [], 0⟩] scope pos) (some (.Name y py)) spos.line X.env = pure true) (ok : BlkOk X.N X.env.scope scope own)
    (hg : ∀ (s : Shared) (H : Hp) (C : Addr) (cl : List (Str × Addr)) (fp : List Addr), PG (X.blk s H scope (compEnvC scope cl C X.env) fp) tg (tG k ow js h))
    (he : ∀ (s : Shared) (H : Hp) (C : Addr) (cl : List (Str × Addr)) (fp : List Addr), PE (X.blk s H scope (compEnvC scope cl C X.env) fp) elt (tD k ow te)) (hjs : ∀ j ∈ js, j ∈ own.map (·.2) := by decide) (hs : ∀ x, foldedSetIterable iter X.env x = pure x := by intro _; rfl) :
    PS X (.Assign [.Name y py] (.ListComp elt [⟨tg, iter, [], 0⟩] scope pos) spos) (fun D σ H => Scr X.K ns σ H ∧ tAsg (tDN k ow (lcD (own.map (·.2)) (fun _ => some (ns.map .int)) h (fun _ => some true) te)) (gName i) D σ H) :=
  ps_imp (ps_setLc hc hN hy hyl hsw (di_scr hi) ok hg (fun _ _ _ _ _ => dts_nil) he hs) fun D σ H ⟨p, z⟩ => ⟨p, lc_tDN hjs σ H _ z⟩
theorem ds_setS {pre : L2.St → Hp → Prop} {i : Nat} (h : PS X st (fun D σ H => pre σ H ∧ tAsg (tDN fc.k fc.ow fa) (gName i) D σ H)) (hi : i ∈ fc.ow) (h0 : i ≠ 0 ∨ fc.me = none) : PS X st (fun D σ H => pre σ H ∧ tS fc (stSet i (asL fa)) D σ H) := ps_imp h fun D σ H ⟨p, F, δ, o, b, x, s, hf, q⟩ => by
  obtain ⟨d, h1, e⟩ := Option.map_eq_some_iff.mp hf
  subst e
  obtain ⟨ds, e2, h2⟩ := asL_some h1
  subst e2
  exact ⟨p, fc.me, fc.H0, F, δ, ds, b.fh, x, h2, fun l xs F' H' n hl hF hH r => q _ F' H' (b.step n) n.f (x.setN n hi (b.new hl) hl hF hH r) (s.setN h0)⟩
theorem ds_setP {pre : L2.St → Hp → Prop} {i : Nat} (h : PS X st (fun D σ H => pre σ H ∧ tAsg (tD fc.k fc.ow fa) (gName i) D σ H)) (hi : i ∉ fc.ow) : PS X st (fun D σ H => pre σ H ∧ tS fc (stSet i fa) D σ H) := ps_imp h fun D σ H ⟨p, F, δ, o, b, x, s, hf, q⟩ => by
  obtain ⟨d, h1, e⟩ := Option.map_eq_some_iff.mp hf
  subst e
  exact ⟨p, fc.me, fc.H0, F, δ, d, b.fh, x, h1, fun v F' H' n r => q _ F' H' (b.step n) n.f ((x.step n).setF hi r) (s.set hi)⟩
theorem dss_pre {pre : L2.St → Hp → Prop} (h : PS X st (fun D σ H => pre σ H ∧ tS fc f D σ H)) (hr : PSs X rest (tS fc g)) : PSs X (st :: rest) (fun D σ H => pre σ H ∧ tS fc (sq f g) D σ H) := pss_imp (pss_cons h hr) fun D σ H ⟨p, F, δ, o, b, x, s, hf, q⟩ => by
  obtain ⟨o1, h1, h2⟩ := Option.bind_eq_some_iff.mp hf
  refine ⟨p, F, δ, o1, b, x, s, h1, ?_⟩
  cases o1 with
  | nx δ1 => exact fun σ1 F1 H1 b1 e1 x1 s1 => ⟨F1, δ1, o, b1, x1, s1, h2, q.mono e1⟩
  | _ => cases h2; exact q
end
section
variable {K : PySem.W.Frag} {mg : Str → Option Value} {base : Heap} {fd : Nat → FuncData} {k : Cl}
def hr_draws : Dt → Option Out := (sq (stSet 4 (asL (bA (fun l => (szOk l).map .list) aNil)))
  (sq (stFor (rng1 (aCons (vr 1) aNil)) (setD 5) lp_law_draws_1)
  (stRet (vr 4))))
def cS_draws (ns : List Int) : Dt → Option PyData := lcD [3] (fun _ => some (ns.map .int)) (setD 3) (fun _ => some true) (vr 3)
def hS_draws (ns : List Int) : Dt → Option Out := sq (stSet 2 (asL (cS_draws ns))) hr_draws
def gS_draws (ns : List Int) (n : Int) : Option Rs := (hS_draws ns [none, some (.int n), none, none, none, none, none, none, none]).bind outRs
theorem rest_law_draws {w : World} (y : Hy K mg base fd k) {cdv : Value} {A : Around} {outer : List Env} {s : Shared} {H : Hp} {E : XK} {F0 H0 : Hp} (hr : Room 0 (A.deeper (envOfC "_law_draws" (defScope st_law_draws) s.heap.objs.size (A_law_draws K) cdv))) :
    PSs (cxOf (L2.CX Pg w) Pg w K mg base ["_law_script", "_law_count", "_law_rests", "_law_cell", "_law_draws_here", "_law_k", "_law_value", "_law_at", "_law_mixed"] "_law_draws" (defScope st_law_draws) (A_law_draws K) cdv A outer s H E) (defBody st_law_draws).tail (tS ⟨k, none, F0, H0, [2, 4], E⟩ hr_draws) := by
  have nd := (sc_law_draws).nd
  exact (dss_cons (ds_setN (ps_set nd (i := 4) rfl (Or.inl rfl) (dn_lst da_nil)) (by decide : 4 ∈ ([2, 4] : List Nat)) (.inl (by decide)))
    (dss_cons (ds_for (passes_of rfl) rfl (di_rng1 (by rfl) y.b_range (da_cons (d_var (pv 1) (by decide : ¬ 1 ∈ ([2, 4] : List Nat))) da_nil)) (dg_name (pg_name nd (i := 5) rfl (Or.inl rfl)) (by decide : ¬ 5 ∈ ([2, 4] : List Nat)))
    (dss_cons (ds_set (ps_set nd (i := 6) rfl (Or.inl rfl) d_int) (by decide : ¬ 6 ∈ ([2, 4] : List Nat)))
    (dss_cons (ds_if (dt_frz (dt_cmp op_gt o_gt (d_callB call_len_seq o_len (by rfl) y.b_len (by rfl) (da_cons (d_var (pv 2) (by decide : ¬ 2 ∈ ([] : List Nat))) da_nil)) d_int (nomark _)))
    (dss_cons (ds_set (ps_set nd (i := 7) rfl (Or.inl rfl) (d_frzF (d_op op_mod o_mod (d_callTy call_int1 o_int (by rfl) y.b_int (by rfl) (da_cons (d_var (pv 5) (by decide : ¬ 5 ∈ ([] : List Nat))) da_nil)) (d_callB call_len_seq o_len (by rfl) y.b_len (by rfl) (da_cons (d_var (pv 2) (by decide : ¬ 2 ∈ ([] : List Nat))) da_nil))))) (by decide : ¬ 7 ∈ ([2, 4] : List Nat)))
    (dss_one (ds_if (dt_frz (dt_cmp op_ge o_ge (d_ix ix_seq o_ix (d_var (pv 2) (by decide : ¬ 2 ∈ ([] : List Nat))) (d_var (pv 7) (by decide : ¬ 7 ∈ ([] : List Nat))) fun _ _ => rfl) (d_op op_pow o_pow d_int d_int) (nomark _)))
    (dss_cons (ds_set (ps_set nd (i := 6) rfl (Or.inl rfl) (d_frzF (d_op op_mod o_mod (d_callTy call_int1 o_int (by rfl) y.b_int (by rfl) (da_cons (d_ix ix_seq o_ix (d_var (pv 2) (by decide : ¬ 2 ∈ ([] : List Nat))) (d_var (pv 7) (by decide : ¬ 7 ∈ ([] : List Nat))) fun _ _ => rfl) da_nil)) d_int))) (by decide : ¬ 6 ∈ ([2, 4] : List Nat)))
    (dss_one (ds_put (ps_asg (d_frzF (d_op op_fdiv o_fdivP (d_ix ix_seq o_ix (d_var (pv 2) (by decide : ¬ 2 ∈ ([] : List Nat))) (d_var (pv 7) (by decide : ¬ 7 ∈ ([] : List Nat))) fun _ _ => rfl) d_int)) (pg_sub (pv 2) (d_var (pv 7) (by decide : ¬ 7 ∈ ([2, 4] : List Nat))) set_list)) (by decide : 2 ∈ ([2, 4] : List Nat)))))
    (dss_cons (ds_set (ps_set nd (i := 8) rfl (Or.inl rfl) (d_frzF (d_op op_mod o_mod (d_callTy call_int1 o_int (by rfl) y.b_int (by rfl) (da_cons (d_op op_add o_add (d_op op_add o_add (d_op op_mul o_mul (d_ix ix_seq o_ix (d_var (pv 2) (by decide : ¬ 2 ∈ ([] : List Nat))) (d_var (pv 7) (by decide : ¬ 7 ∈ ([] : List Nat))) fun _ _ => rfl) d_int) (d_op op_mul o_mul (d_var (pv 5) (by decide : ¬ 5 ∈ ([] : List Nat))) d_int)) d_int) da_nil)) d_int))) (by decide : ¬ 8 ∈ ([2, 4] : List Nat)))
    (dss_cons (ds_set (ps_set nd (i := 8) rfl (Or.inl rfl) (d_op op_mod o_mod (d_callTy call_int1 o_int (by rfl) y.b_int (by rfl) (da_cons (d_op op_add o_add (d_op op_mul o_mul (d_var (pv 8) (by decide : ¬ 8 ∈ ([2, 4] : List Nat))) d_int) (d_var (pv 7) (by decide : ¬ 7 ∈ ([2, 4] : List Nat)))) da_nil)) d_int)) (by decide : ¬ 8 ∈ ([2, 4] : List Nat)))
    (dss_one (ds_set (ps_set nd (i := 6) rfl (Or.inl rfl) (d_op op_mod o_mod (d_callTy call_int1 o_int (by rfl) y.b_int (by rfl) (da_cons (d_op op_fdiv o_fdivP (d_var (pv 8) (by decide : ¬ 8 ∈ ([2, 4] : List Nat))) d_int) da_nil)) d_int)) (by decide : ¬ 6 ∈ ([2, 4] : List Nat)))))))))
    dss_nil)
    (dss_one (ds_app (ps_expr (pe_bm PySem.F.plainAttrs_list PySem.F.slot_list_append PySem.F.type_list_append mt_append (pv 4) (pa_cons (d_var (pv 6) (by decide : ¬ 6 ∈ ([2, 4] : List Nat))) pa_nil))) (by decide : 4 ∈ ([2, 4] : List Nat)))))) (by decide : ∀ j ∈ ([5] : List Nat), j ∉ ([2, 4] : List Nat)))
    (dss_one (ds_retZ rfl (d_var (pv 4) (by decide : ¬ 4 ∈ ([] : List Nat)))))))
theorem body_law_draws {w : World} (ns : List Int) (y : Hy K mg base fd k) {cdv : Value} {A : Around} {outer : List Env} {s : Shared} {H : Hp} {E : XK} {F0 H0 : Hp} (hr : Room 0 (A.deeper (envOfC "_law_draws" (defScope st_law_draws) s.heap.objs.size (A_law_draws K) cdv))) :
    PSs (cxOf (L2.CX Pg w) Pg w K mg base ["_law_script", "_law_count", "_law_rests", "_law_cell", "_law_draws_here", "_law_k", "_law_value", "_law_at", "_law_mixed"] "_law_draws" (defScope st_law_draws) (A_law_draws K) cdv A outer s H E) (defBody st_law_draws) (fun D σ H => Scr K ns σ H ∧ tS ⟨k, none, F0, H0, [2, 4], E⟩ (hS_draws ns) D σ H) := by
  have nd := (sc_law_draws).nd
  exact dss_pre (ds_setS (das_scr (i := 2) (own := [("_law_cell", 3)]) (pv 0) rfl nd rfl rfl (sw_true rfl rfl rfl (by decide +kernel)) (blkOk_by (N := ["_law_script", "_law_count", "_law_rests", "_law_cell", "_law_draws_here", "_law_k", "_law_value", "_law_at", "_law_mixed"]) (sc := defScope st_law_draws) (by decide +kernel)) (fun _ _ _ _ _ => (dg_name (pg_name nd (i := 3) rfl (Or.inl rfl)) (by decide : ¬ 3 ∈ ([2, 4] : List Nat)))) (fun _ _ _ _ _ => (d_var (pv 3) (by decide : ¬ 3 ∈ ([2, 4] : List Nat))))) (by decide : 2 ∈ ([2, 4] : List Nat)) (.inl (by decide))) (rest_law_draws y hr)
def spS (K : PySem.W.Frag) (k : Cl) (ns : List Int) : Sp := fun vs H Q E => ∃ a n F d, vs = [.ref a, .int n] ∧ SqL K H a (ns.map V.int) ∧ FIn F H ∧ LamX.Tabs k.T H ∧ gS_draws ns n = some (.ok d) ∧ ∀ v F' H', Nx k.T F H F' H' → Rp k F' v d → Q v H'
theorem ok_draws {w : World} (ns : List Int) (y : Hy K mg base fd k) : FnOk Pg w K mg base (L2.CX Pg w) 1 (A_law_draws K) (fd 39) ["_law_script", "_law_count"] (spS K k ns) := by
  refine y.F_law_draws.ok sc_law_draws (fun vs H Q E ⟨a, n, F, d, e, _⟩ => by rw [e]; rfl) fun cdv A outer s H vs Q E hr ⟨a, n, F1, d, e, z, e1, tb, hg, q⟩ => ?_
  subst e
  obtain ⟨o, h1, h2⟩ := Option.bind_eq_some_iff.mp hg
  refine ⟨_, body_law_draws ns y hr, ⟨a, rfl, z⟩, F1, [none, some (.int n), none, none, none, none, none, none, none], o, .refl e1 (fun a z => nomatch z), ⟨rfl, fun i d hi e => ?_, fun i d hi e => ?_, fun i j a b hi hj ne e1 e2 => ?_, tb⟩, (fun p z => nomatch z), h1, ?_⟩
  · match i, e with
    | 0, e => cases e
    | 1, e => cases e; exact ⟨_, rfl, .int n⟩
    | 2, e => cases e
    | 3, e => cases e
    | 4, e => cases e
    | 5, e => cases e
    | 6, e => cases e
    | 7, e => cases e
    | 8, e => cases e
    | j + 9, e => cases e
  · match i, hi, e with
    | 2, _, e => cases e
    | 4, _, e => cases e
  · match i, hi, e1 with
    | 2, _, e => cases e
    | 4, _, e => cases e
  · cases o with
    | rt d δ => cases h2; exact fun v F' H' b _ r' => q v F' H' b.nx r'
    | nx δ => cases h2; exact fun σ F' H' b _ _ _ => q _ F' H' b.nx .non
    | ex c δ => cases h2
    | bk δ => cases h2
    | ct δ => cases h2
def hr_law : Dt → Option Out := (sq (stSet 2 (bA (gN 2 f_law_sky) (aCons (vr 1) (aCons (cD (.int 4)) aNil))))
  (sq (stSet 3 (bA (mkO 2 f_Console___init__) (aCons (vr 2) aNil)))
  (sq (stIf (tNotD (tB (bA (gN 1 f_law_lost) (aCons (b2 modI (bA toI (aCons (b2 ixD (vr 1) (cD (.int 114))) aNil)) (cD (.int 10))) aNil))))
  (stRet (cD (.bool false)))
  stNx)
  (sq (stFor (rng1 (aCons (b2 modI (bA toI (aCons (b2 ixD (vr 1) (cD (.int 50))) aNil)) (cD (.int 9))) aNil)) (setD 4) lp_law_1)
  (stRet (cD (.bool true)))))))
def hS_law (ns : List Int) : Dt → Option Out := sq (stSet 1 fun _ => okOf (fun _ => gS_draws ns 115) []) hr_law
theorem rest_law {w : World} (y : Hy K mg base fd k) {cdv : Value} {A : Around} {outer : List Env} {s : Shared} {H : Hp} {E : XK} {F0 H0 : Hp} (hr : Room 14 (A.deeper (envOfC "law" (defScope st_law) s.heap.objs.size (A_law K) cdv))) (hg : (A.deeper (envOfC "law" (defScope st_law) s.heap.objs.size (A_law K) cdv)).guards = some []) :
    PSs (cxOf (L2.CX Pg w) Pg w K mg base ["_law_script", "_law_draws_here", "_law_sky_here", "_law_console", "_law_k", "_law_before", "_law_plan", "_law_worth_here", "_law_deed_here", "_law_told", "_law_state", "_law_lost_here", "_law_wish", "_law_best_here"] "law" (defScope st_law) (A_law K) cdv A outer s H E) (defBody st_law).tail (tS ⟨k, none, F0, H0, [3], E⟩ hr_law) := by
  have nd := (sc_law).nd
  exact (dss_cons (ds_set (ps_set nd (i := 2) rfl (Or.inl rfl) (d_call (ok_law_sky y) (hr.mono (by decide : 1 ≤ 14)) (by rfl) y.m_law_sky y.F_law_sky.kp (b_law_sky y) (da_cons (d_var (pv 1) (by decide : ¬ 1 ∈ ([3] : List Nat))) (da_cons d_int da_nil)))) (by decide : ¬ 2 ∈ ([3] : List Nat)))
    (dss_cons (ds_newO nd (i := 3) rfl (Or.inl rfl) y.mkO (ok_Console___init__ y) (hr.mono (by decide : 13 ≤ 14)) (by rfl) y.m_Console (b_Console___init__ y) (da_cons (d_var (pv 2) (by decide : ¬ 2 ∈ ([3] : List Nat))) da_nil) (by decide : 3 ∈ ([3] : List Nat)) (.inl (by decide)))
    (dss_cons (ds_if (dt_not (dt_val (d_call (ok_law_lost y) (hr.mono (by decide : 14 ≤ 14)) (by rfl) y.m_law_lost y.F_law_lost.kp (b_law_lost y) (da_cons (d_op op_mod o_mod (d_callTy call_int1 o_int (by rfl) y.b_int (by rfl) (da_cons (d_ix ix_seq o_ix (d_var (pv 1) (by decide : ¬ 1 ∈ ([3] : List Nat))) d_int fun _ _ => rfl) da_nil)) d_int) da_nil)) (by intro _; rfl)))
    (dss_one (ds_ret d_bl))
    dss_nil)
    (dss_cons (ds_for (passes_of rfl) rfl (di_rng1 (by rfl) y.b_range (da_cons (d_op op_mod o_mod (d_callTy call_int1 o_int (by rfl) y.b_int (by rfl) (da_cons (d_ix ix_seq o_ix (d_var (pv 1) (by decide : ¬ 1 ∈ ([3] : List Nat))) d_int fun _ _ => rfl) da_nil)) d_int) da_nil)) (dg_name (pg_name nd (i := 4) rfl (Or.inl rfl)) (by decide : ¬ 4 ∈ ([3] : List Nat)))
    (dss_cons (ds_set (ps_set nd (i := 5) rfl (Or.inl rfl) (d_frzO y.SO (d_tup (da_cons (d_meth0 (ok_Console_sky y) (d_var (pv 3) (by decide : ¬ 3 ∈ ([] : List Nat))) y.cO y.M_sky (hr.mono (by decide : 2 ≤ 14)) (b_Console_sky y)) (da_cons (d_prop (ok_Console_now y) (d_var (pv 3) (by decide : ¬ 3 ∈ ([] : List Nat))) y.cO y.p_now.choose_spec (hr.mono (by decide : 3 ≤ 14)) (b_Console_now y) passN) (da_cons (d_meth0 (ok_Console_begun y) (d_var (pv 3) (by decide : ¬ 3 ∈ ([] : List Nat))) y.cO y.M_begun (hr.mono (by decide : 2 ≤ 14)) (b_Console_begun y)) (da_cons (d_meth0 (ok_Console_promises y) (d_var (pv 3) (by decide : ¬ 3 ∈ ([] : List Nat))) y.cO y.M_promises (hr.mono (by decide : 2 ≤ 14)) (b_Console_promises y)) da_nil))))))) (by decide : ¬ 5 ∈ ([3] : List Nat)))
    (dss_cons (ds_par (ps_par rfl nd (i := 6) (j := 7) rfl rfl (by decide) rfl rfl (da_cons (d_frzO y.SO (d_meth0 (ok_Console_plan y) (d_var (pv 3) (by decide : ¬ 3 ∈ ([] : List Nat))) y.cO y.M_plan (hr.mono (by decide : 2 ≤ 14)) (b_Console_plan y))) (da_cons (d_frzO y.SO (d_meth0 (ok_Console_worth y) (d_var (pv 3) (by decide : ¬ 3 ∈ ([] : List Nat))) y.cO y.M_worth (hr.mono (by decide : 2 ≤ 14)) (b_Console_worth y))) da_nil)) (by kernel_rfl)) (by decide : ¬ 6 ∈ ([3] : List Nat)) (by decide : ¬ 7 ∈ ([3] : List Nat)))
    (dss_cons (ds_set (ps_set nd (i := 8) rfl (Or.inl rfl) (d_call (ok_law_deed y) (hr.mono (by decide : 1 ≤ 14)) (by rfl) y.m_law_deed y.F_law_deed.kp (b_law_deed y) (da_cons (d_var (pv 5) (by decide : ¬ 5 ∈ ([3] : List Nat))) (da_cons (d_ofN (dn_slice (d_var (pv 1) (by decide : ¬ 1 ∈ ([3] : List Nat))) (do_some (d_op op_add o_add d_int (d_op op_mul o_mul d_int (d_var (pv 4) (by decide : ¬ 4 ∈ ([3] : List Nat)))))) (do_some (d_op op_add o_add d_int (d_op op_mul o_mul d_int (d_var (pv 4) (by decide : ¬ 4 ∈ ([3] : List Nat)))))))) da_nil)))) (by decide : ¬ 8 ∈ ([3] : List Nat)))
    (dss_cons (ds_setE (ps_set nd (i := 9) rfl (Or.inl rfl) (e_callO (ok_law_do y) (takes_of rfl rfl rfl rfl) (pv 3) (hr.mono (by decide : 13 ≤ 14)) (by rfl) y.m_law_do y.F_law_do.kp (b_law_do y) (da_cons (d_var (pv 8) (by decide : ¬ 8 ∈ ([3] : List Nat))) da_nil) (by decide : 3 ∈ ([3] : List Nat)))) (by decide : ¬ 9 ∈ ([3] : List Nat)))
    (dss_cons (ds_set (ps_set nd (i := 10) rfl (Or.inr rfl) (d_frzO y.SO (d_tup (da_cons (d_meth0 (ok_Console_sky y) (d_var (pv 3) (by decide : ¬ 3 ∈ ([] : List Nat))) y.cO y.M_sky (hr.mono (by decide : 2 ≤ 14)) (b_Console_sky y)) (da_cons (d_prop (ok_Console_now y) (d_var (pv 3) (by decide : ¬ 3 ∈ ([] : List Nat))) y.cO y.p_now.choose_spec (hr.mono (by decide : 3 ≤ 14)) (b_Console_now y) passN) (da_cons (d_meth0 (ok_Console_begun y) (d_var (pv 3) (by decide : ¬ 3 ∈ ([] : List Nat))) y.cO y.M_begun (hr.mono (by decide : 2 ≤ 14)) (b_Console_begun y)) (da_cons (d_meth0 (ok_Console_promises y) (d_var (pv 3) (by decide : ¬ 3 ∈ ([] : List Nat))) y.cO y.M_promises (hr.mono (by decide : 2 ≤ 14)) (b_Console_promises y)) da_nil))))))) (by decide : ¬ 10 ∈ ([3] : List Nat)))
    (dss_cons (ds_if (dt_val (d_isi (by rfl) y.b_isinstance (by rfl) (by rfl) y.b_tuple (by rfl) (by decide) (by decide) tbTup_ok (d_var (pv 9) (by decide : ¬ 9 ∈ ([3] : List Nat)))) (by intro _; rfl))
    (dss_one (ds_if (dt_frz (PW.pt (dw_or (dt_cmp (op_neD hr.units) o_neD (d_callB (cr_rep hg hr.units) o_rep (by rfl) y.b_repr (by rfl) (da_cons (d_var (pv 10) (by decide : ¬ 10 ∈ ([] : List Nat))) da_nil)) (d_callB (cr_rep hg hr.units) o_rep (by rfl) y.b_repr (by rfl) (da_cons (d_var (pv 5) (by decide : ¬ 5 ∈ ([] : List Nat))) da_nil)) (nomark _)) (dw_or1 (dt_cmp (op_neD hr.units) o_neD (d_meth0 (ok_Console_plan y) (d_var (pv 3) (by decide : ¬ 3 ∈ ([] : List Nat))) y.cO y.M_plan (hr.mono (by decide : 2 ≤ 14)) (b_Console_plan y)) (d_var (pv 6) (by decide : ¬ 6 ∈ ([] : List Nat))) (nomark _))))))
    (dss_one (ds_ret d_bl))
    dss_nil))
    (dss_one (ds_if (dt_cmp (op_eqD hr.units) o_eqD (d_ix ix_seq o_ix (d_var (pv 8) (by decide : ¬ 8 ∈ ([3] : List Nat))) d_int fun _ _ => rfl) d_str (nomark _))
    (dss_one (ds_if (dt_frz (PW.pt (dw_or (dt_cmp (op_neD hr.units) o_neD (d_meth0 (ok_Console_plan y) (d_var (pv 3) (by decide : ¬ 3 ∈ ([] : List Nat))) y.cO y.M_plan (hr.mono (by decide : 2 ≤ 14)) (b_Console_plan y)) (d_var (pv 6) (by decide : ¬ 6 ∈ ([] : List Nat))) (nomark _)) (dw_or (dt_cmp (op_neD hr.units) o_neD (d_meth0 (ok_Console_begun y) (d_var (pv 3) (by decide : ¬ 3 ∈ ([] : List Nat))) y.cO y.M_begun (hr.mono (by decide : 2 ≤ 14)) (b_Console_begun y)) (d_ofN (dn_slice (d_var (pv 6) (by decide : ¬ 6 ∈ ([] : List Nat))) do_none (do_some (d_callB call_len_seq o_len (by rfl) y.b_len (by rfl) (da_cons (d_ix ix_seq o_ix (d_var (pv 10) (by decide : ¬ 10 ∈ ([] : List Nat))) d_int fun _ _ => rfl) da_nil))))) (nomark _)) (dw_or1 (dt_cmp (op_neD hr.units) o_neD (d_prop (ok_Console_now y) (d_var (pv 3) (by decide : ¬ 3 ∈ ([] : List Nat))) y.cO y.p_now.choose_spec (hr.mono (by decide : 3 ≤ 14)) (b_Console_now y) passN) (d_ix ix_seq o_ix (d_var (pv 8) (by decide : ¬ 8 ∈ ([] : List Nat))) d_int fun _ _ => rfl) (nomark _)))))))
    (dss_one (ds_ret d_bl))
    dss_nil))
    (dss_one (ds_if (dt_frz (PW.pt (dw_and (dt_cmp (op_inD (u65 hr)) o_inD (d_ix ix_seq o_ix (d_var (pv 8) (by decide : ¬ 8 ∈ ([] : List Nat))) d_int fun _ _ => rfl) (d_ofN (dn_lst (da_cons d_str (da_cons d_str da_nil)))) rfl) (dw_and1 (dt_cmp op_lt o_lt (d_meth0 (ok_Console_worth y) (d_var (pv 3) (by decide : ¬ 3 ∈ ([] : List Nat))) y.cO y.M_worth (hr.mono (by decide : 2 ≤ 14)) (b_Console_worth y)) (d_var (pv 7) (by decide : ¬ 7 ∈ ([] : List Nat))) (nomark _))))))
    (dss_one (ds_ret d_bl))
    (dss_one (ds_if (dt_frz (PW.pt (dw_and (dt_cmp (op_eqD hr.units) o_eqD (d_ix ix_seq o_ix (d_var (pv 8) (by decide : ¬ 8 ∈ ([] : List Nat))) d_int fun _ _ => rfl) d_str (nomark _)) (dw_and1 (PW.pt (dw_or (dt_cmp op_gt o_gt (d_meth0 (ok_Console_worth y) (d_var (pv 3) (by decide : ¬ 3 ∈ ([] : List Nat))) y.cO y.M_worth (hr.mono (by decide : 2 ≤ 14)) (b_Console_worth y)) (d_var (pv 7) (by decide : ¬ 7 ∈ ([] : List Nat))) (nomark _)) (dw_or1 (dt_cmp (op_notInD (u65 hr)) o_notInD (d_ix ix_seq o_ix (d_var (pv 8) (by decide : ¬ 8 ∈ ([] : List Nat))) d_int fun _ _ => rfl) (d_ix ix_seq o_ix (d_var (pv 10) (by decide : ¬ 10 ∈ ([] : List Nat))) d_int fun _ _ => rfl) rfl))))))))
    (dss_one (ds_ret d_bl))
    (dss_one (ds_if (dt_frz (PW.pt (dw_and (dt_cmp (op_eqD hr.units) o_eqD (d_ix ix_seq o_ix (d_var (pv 8) (by decide : ¬ 8 ∈ ([] : List Nat))) d_int fun _ _ => rfl) d_str (nomark _)) (dw_and (dt_cmp (op_eqD hr.units) o_eqD (d_var (pv 9) (by decide : ¬ 9 ∈ ([] : List Nat))) (d_ofN (dn_lst da_nil)) (nomark _)) (dw_and1 (dt_cmp op_gt o_gt (d_meth0 (ok_Console_worth y) (d_var (pv 3) (by decide : ¬ 3 ∈ ([] : List Nat))) y.cO y.M_worth (hr.mono (by decide : 2 ≤ 14)) (b_Console_worth y)) (d_var (pv 7) (by decide : ¬ 7 ∈ ([] : List Nat))) (nomark _)))))))
    (dss_one (ds_ret d_bl))
    dss_nil)))))))))
    (dss_cons (ds_set (das_ofN (das_lc (i := 11) (own := [("_law_wish", 12)]) rfl nd rfl rfl (sw_true rfl rfl rfl (by decide +kernel)) (di_weak (di_list (d_ix ix_seq o_ix (d_var (pv 5) (by decide : ¬ 5 ∈ ([3] : List Nat))) d_int fun _ _ => rfl))) (blkOk_by (N := ["_law_script", "_law_draws_here", "_law_sky_here", "_law_console", "_law_k", "_law_before", "_law_plan", "_law_worth_here", "_law_deed_here", "_law_told", "_law_state", "_law_lost_here", "_law_wish", "_law_best_here"]) (sc := defScope st_law) (by decide +kernel)) (fun _ _ _ _ _ => (dg_name (pg_name nd (i := 12) rfl (Or.inl rfl)) (by decide : ¬ 12 ∈ ([3] : List Nat)))) (fun _ _ _ _ _ => dts_one (dt_cmp (op_notInD (u65 hr)) o_notInD (d_var (pv 12) (by decide : ¬ 12 ∈ ([3] : List Nat))) (d_ix ix_seq o_ix (d_var (pv 10) (by decide : ¬ 10 ∈ ([3] : List Nat))) d_int fun _ _ => rfl) rfl)) (fun _ _ _ _ _ => (d_var (pv 12) (by decide : ¬ 12 ∈ ([3] : List Nat)))))) (by decide : ¬ 11 ∈ ([3] : List Nat)))
    (dss_cons (ds_if (PW.pt (dw_or (PW.pt (dw_and (dt_cmp op_gt o_gt (d_callB call_len_seq o_len (by rfl) y.b_len (by rfl) (da_cons (d_var (pv 11) (by decide : ¬ 11 ∈ ([3] : List Nat))) da_nil)) d_int (nomark _)) (dw_and1 (dt_cmp (op_notInD (u65 hr)) o_notInD (d_ix ix_seq o_ix (d_var (pv 8) (by decide : ¬ 8 ∈ ([3] : List Nat))) d_int fun _ _ => rfl) (d_ofN (dn_lst (da_cons d_str (da_cons d_str da_nil)))) rfl)))) (dw_or1 (PW.pt (dw_and (dt_cmp (op_eqD hr.units) o_eqD (d_ix ix_seq o_ix (d_var (pv 8) (by decide : ¬ 8 ∈ ([3] : List Nat))) d_int fun _ _ => rfl) d_str (nomark _)) (dw_and (dt_not (dt_val (d_isi (by rfl) y.b_isinstance (by rfl) (by rfl) y.b_tuple (by rfl) (by decide) (by decide) tbTup_ok (d_var (pv 9) (by decide : ¬ 9 ∈ ([3] : List Nat)))) (by intro _; rfl))) (dw_and1 (dt_cmp (op_neD hr.units) o_neD (d_var (pv 9) (by decide : ¬ 9 ∈ ([3] : List Nat))) (d_var (pv 11) (by decide : ¬ 11 ∈ ([3] : List Nat))) (nomark _)))))))))
    (dss_one (ds_ret d_bl))
    dss_nil)
    (dss_cons (ds_set (ps_set nd (i := 13) rfl (Or.inl rfl) (d_call (ok_law_best y) (hr.mono (by decide : 4 ≤ 14)) (by rfl) y.m_law_best y.F_law_best.kp (b_law_best y) (da_cons (d_var (pv 10) (by decide : ¬ 10 ∈ ([3] : List Nat))) da_nil))) (by decide : ¬ 13 ∈ ([3] : List Nat)))
    (dss_cons (ds_if (dt_frz (PW.pt (dw_or (dt_cmp op_isN o_isN (d_var (pv 13) (by decide : ¬ 13 ∈ ([] : List Nat))) d_non (nomark _)) (dw_or (dt_cmp (op_notInD (u65 hr)) o_notInD (d_meth0 (ok_Console_plan y) (d_var (pv 3) (by decide : ¬ 3 ∈ ([] : List Nat))) y.cO y.M_plan (hr.mono (by decide : 2 ≤ 14)) (b_Console_plan y)) (d_call (ok_law_plans_on y) (hr.mono (by decide : 3 ≤ 14)) (by rfl) y.m_law_plans_on y.F_law_plans_on.kp (b_law_plans_on y) (da_cons (d_ix ix_seq o_ix (d_var (pv 10) (by decide : ¬ 10 ∈ ([] : List Nat))) d_int fun _ _ => rfl) (da_cons (d_ix ix_seq o_ix (d_var (pv 10) (by decide : ¬ 10 ∈ ([] : List Nat))) d_int fun _ _ => rfl) (da_cons (d_ix ix_seq o_ix (d_var (pv 10) (by decide : ¬ 10 ∈ ([] : List Nat))) d_int fun _ _ => rfl) da_nil)))) rfl) (dw_or1 (dt_not (dt_val (d_call (ok_law_keep y) (hr.mono (by decide : 1 ≤ 14)) (by rfl) y.m_law_keep y.F_law_keep.kp (b_law_keep y) (da_cons (d_ix ix_seq o_ix (d_var (pv 10) (by decide : ¬ 10 ∈ ([] : List Nat))) d_int fun _ _ => rfl) (da_cons (d_meth0 (ok_Console_plan y) (d_var (pv 3) (by decide : ¬ 3 ∈ ([] : List Nat))) y.cO y.M_plan (hr.mono (by decide : 2 ≤ 14)) (b_Console_plan y)) (da_cons (d_ix ix_seq o_ix (d_var (pv 10) (by decide : ¬ 10 ∈ ([] : List Nat))) d_int fun _ _ => rfl) da_nil)))) (by intro _; rfl))))))))
    (dss_one (ds_ret d_bl))
    dss_nil)
    (dss_one (ds_if (dt_frz (PW.pt (dw_or (dt_cmp (op_neD hr.units) o_neD (d_meth0 (ok_Console_worth y) (d_var (pv 3) (by decide : ¬ 3 ∈ ([] : List Nat))) y.cO y.M_worth (hr.mono (by decide : 2 ≤ 14)) (b_Console_worth y)) (d_call (ok_law_worth y) (hr.mono (by decide : 1 ≤ 14)) (by rfl) y.m_law_worth y.F_law_worth.kp (b_law_worth y) (da_cons (d_ix ix_seq o_ix (d_var (pv 10) (by decide : ¬ 10 ∈ ([] : List Nat))) d_int fun _ _ => rfl) (da_cons (d_var (pv 13) (by decide : ¬ 13 ∈ ([] : List Nat))) da_nil))) (nomark _)) (dw_or1 (dt_cmp (op_neD hr.units) o_neD (d_meth0 (ok_Console_worth y) (d_var (pv 3) (by decide : ¬ 3 ∈ ([] : List Nat))) y.cO y.M_worth (hr.mono (by decide : 2 ≤ 14)) (b_Console_worth y)) (d_call (ok_law_worth y) (hr.mono (by decide : 1 ≤ 14)) (by rfl) y.m_law_worth y.F_law_worth.kp (b_law_worth y) (da_cons (d_ix ix_seq o_ix (d_var (pv 10) (by decide : ¬ 10 ∈ ([] : List Nat))) d_int fun _ _ => rfl) (da_cons (d_meth0 (ok_Console_plan y) (d_var (pv 3) (by decide : ¬ 3 ∈ ([] : List Nat))) y.cO y.M_plan (hr.mono (by decide : 2 ≤ 14)) (b_Console_plan y)) da_nil))) (nomark _))))))
    (dss_one (ds_ret d_bl))
    dss_nil)))))))))))) (by decide : ∀ j ∈ ([4] : List Nat), j ∉ ([3] : List Nat)))
    (dss_one (ds_ret d_bl))))))
theorem body_lawS {w : World} (ns : List Int) (y : Hy K mg base fd k) {cdv : Value} {A : Around} {outer : List Env} {s : Shared} {H : Hp} {E : XK} {F0 H0 : Hp} (hr : Room 14 (A.deeper (envOfC "law" (defScope st_law) s.heap.objs.size (A_law K) cdv))) (hg : (A.deeper (envOfC "law" (defScope st_law) s.heap.objs.size (A_law K) cdv)).guards = some []) :
    PSs (cxOf (L2.CX Pg w) Pg w K mg base ["_law_script", "_law_draws_here", "_law_sky_here", "_law_console", "_law_k", "_law_before", "_law_plan", "_law_worth_here", "_law_deed_here", "_law_told", "_law_state", "_law_lost_here", "_law_wish", "_law_best_here"] "law" (defScope st_law) (A_law K) cdv A outer s H E) (defBody st_law) (fun D σ H => Scr K ns σ H ∧ tS ⟨k, none, F0, H0, [3], E⟩ (hS_law ns) D σ H) := by
  have nd := (sc_law).nd
  refine dss_pre (ds_setP (ps_imp (ps_set nd (i := 1) rfl (Or.inl rfl) (pe_call (E := E0) (ok_draws ns y) (hr.mono (by decide : 1 ≤ 14)) (by rfl) y.m_law_draws y.F_law_draws.kp (b_law_draws y) .nil passL (pa_cons (pv 0) (pa_cons pe_int pa_nil)))) fun D σ H ⟨⟨a, e1, z⟩, me, H0, F, δ, d, ex, x, hf, q⟩ => ?_) (by decide : ¬ 1 ∈ ([3] : List Nat))) (rest_law y hr hg)
  refine ⟨_, e1, ?_⟩
  show spS K k ns [.ref a, .int 115] H _ E0
  exact ⟨a, 115, F, d, rfl, z, ex, x.tab, okOf_some hf, fun v F' H' n r => q v F' H' n r⟩
end
end Sk
set_option Elab.async false
set_option linter.all false
set_option maxRecDepth 100000
set_option maxHeartbeats 4000000
/-! The mirrors read in plain words: how they run on data; skies; one look behind another. -/
namespace Sk
open PySem L2 Dl
/-! ### running -/
@[simp] theorem vr_e (i : Nat) (δ : Dt) : vr i δ = (δ[i]?).join := rfl
@[simp] theorem cD_e (d : PyData) (δ : Dt) : cD d δ = some d := rfl
@[simp] theorem b2_e (g : PyData → PyData → Option PyData) (f h : Dt → Option PyData) (δ : Dt) : b2 g f h δ = (f δ).bind fun x => (h δ).bind fun y => g x y := rfl
@[simp] theorem b1_e (g : PyData → Option PyData) (f : Dt → Option PyData) (δ : Dt) : b1 g f δ = (f δ).bind g := rfl
@[simp] theorem bA_e (g : List PyData → Option PyData) (f : Dt → Option (List PyData)) (δ : Dt) : bA g f δ = (f δ).bind g := rfl
@[simp] theorem aNil_e (δ : Dt) : aNil δ = some [] := rfl
@[simp] theorem aCons_e (f : Dt → Option PyData) (r : Dt → Option (List PyData)) (δ : Dt) : aCons f r δ = (f δ).bind fun d => (r δ).map (d :: ·) := rfl
@[simp] theorem gI_e (g : Int → Int → PyData) (i j : Int) : gI g (.int i) (.int j) = some (g i j) := rfl
@[simp] theorem addI_e (i j : Int) : addI (.int i) (.int j) = some (.int (i + j)) := rfl
@[simp] theorem subI_e (i j : Int) : subI (.int i) (.int j) = some (.int (i - j)) := rfl
@[simp] theorem ltI_e (i j : Int) : ltI (.int i) (.int j) = some (.bool (decide (i < j))) := rfl
@[simp] theorem leI_e (i j : Int) : leI (.int i) (.int j) = some (.bool (decide (i ≤ j))) := rfl
@[simp] theorem gtI_e (i j : Int) : gtI (.int i) (.int j) = some (.bool (decide (j < i))) := rfl
@[simp] theorem geI_e (i j : Int) : geI (.int i) (.int j) = some (.bool (decide (j ≤ i))) := rfl
@[simp] theorem negI_e (i : Int) : negI (.int i) = some (.int (-i)) := rfl
theorem mulI_e {i j : Int} (h : (-(2 ^ 64) < i ∧ i < 2 ^ 64) ∨ (-(2 ^ 64) < j ∧ j < 2 ^ 64)) : mulI (.int i) (.int j) = some (.int (i * j)) := if_pos (decide_eq_true h)
theorem fdivP_e {i j : Int} (h : 0 < j ∧ j < 1073741824) : fdivP (.int i) (.int j) = some (.int (i / j)) := if_pos (decide_eq_true h)
theorem modI_e {i j : Int} (h : 0 < j) : modI (.int i) (.int j) = some (.int (i % j)) := if_pos (decide_eq_true h)
@[simp] theorem absI_e (i : Int) : absI [.int i] = some (.int (if i < 0 then -i else i)) := rfl
@[simp] theorem max2_e (i j : Int) : max2 [.int i, .int j] = some (.int (max i j)) := by
  show some (PyData.int (if j > i then j else i)) = _
  congr 2
  simp only [Int.max_def]
  split <;> split <;> omega
@[simp] theorem min2_e (i j : Int) : min2 [.int i, .int j] = some (.int (min i j)) := by
  show some (PyData.int (if j < i then j else i)) = _
  congr 2
  simp only [Int.min_def]
  split <;> split <;> omega
@[simp] theorem toI_e (i : Int) : toI [.int i] = some (.int i) := rfl
@[simp] theorem toI_b (c : Bool) : toI [.bool c] = some (.int (if c then 1 else 0)) := rfl
@[simp] theorem lenD_e (a : List PyData) : lenD [.list a] = some (.int a.length) := rfl
@[simp] theorem isN_e (d : PyData) : isN d .none = some (.bool (isNone d)) := rfl
@[simp] theorem isNotN_e (d : PyData) : isNotN d .none = some (.bool (!isNone d)) := rfl
@[simp] theorem isNone_none : isNone .none = true := rfl
@[simp] theorem isNone_int (i : Int) : isNone (.int i) = false := rfl
@[simp] theorem isNone_tuple (l : List PyData) : isNone (.tuple l) = false := rfl
@[simp] theorem isNone_list (l : List PyData) : isNone (.list l) = false := rfl
@[simp] theorem tB_e (f : Dt → Option PyData) (δ : Dt) : tB f δ = (f δ).bind fun d => match d with | .bool c => some c | _ => none := rfl
@[simp] theorem tAnd_e (f g : Dt → Option Bool) (δ : Dt) : tAndD f g δ = (f δ).bind fun c => if c then g δ else some false := rfl
@[simp] theorem tOr_e (f g : Dt → Option Bool) (δ : Dt) : tOrD f g δ = (f δ).bind fun c => if c then some true else g δ := rfl
@[simp] theorem tNot_e (f : Dt → Option Bool) (δ : Dt) : tNotD f δ = (f δ).map (!·) := rfl
@[simp] theorem vAnd_e (f g : Dt → Option PyData) (δ : Dt) : vAnd f g δ = (f δ).bind fun d => match d with | .bool true => g δ | .bool false => some (.bool false) | _ => none := rfl
@[simp] theorem vNot_e (f : Dt → Option PyData) (δ : Dt) : vNot f δ = (f δ).bind fun d => match d with | .bool c => some (.bool !c) | _ => none := rfl
@[simp] theorem sq_e (f g : Dt → Option Out) (δ : Dt) : sq f g δ = (f δ).bind fun o => match o with | .nx δ' => g δ' | o => some o := rfl
@[simp] theorem stSet_e (i : Nat) (f : Dt → Option PyData) (δ : Dt) : stSet i f δ = (f δ).map fun d => .nx (δ.set i (some d)) := rfl
@[simp] theorem stG_e (f : Dt → Option PyData) (h : PyData → Dt → Option Dt) (δ : Dt) : stG f h δ = (f δ).bind fun d => (h d δ).map .nx := rfl
@[simp] theorem stRet_e (f : Dt → Option PyData) (δ : Dt) : stRet f δ = (f δ).map fun d => .rt d δ := rfl
@[simp] theorem stRetN_e (δ : Dt) : stRetN δ = some (.rt .none δ) := rfl
@[simp] theorem stNx_e (δ : Dt) : stNx δ = some (.nx δ) := rfl
@[simp] theorem stBk_e (δ : Dt) : stBk δ = some (.bk δ) := rfl
@[simp] theorem stIf_e (c : Dt → Option Bool) (f g : Dt → Option Out) (δ : Dt) : stIf c f g δ = (c δ).bind fun z => if z = true then f δ else g δ := rfl
@[simp] theorem stFor_e (fi : Dt → Option (List PyData)) (h : PyData → Dt → Option Dt) (fb : Dt → Option Out) (δ : Dt) : stFor fi h fb δ = (fi δ).bind fun ds => forL h fb ds δ := rfl
@[simp] theorem stAug_e (i : Nat) (op : Int → Int → Int) (f : Dt → Option PyData) (δ : Dt) : stAug i op f δ = match (δ[i]?).join, f δ with
  | some (.int a), some (.int b) => some (.nx (δ.set i (some (.int (op a b)))))
  | _, _ => none := rfl
@[simp] theorem listI_e (f : Dt → Option PyData) (δ : Dt) : listI f δ = (f δ).bind fun d => match d with | .list l => some l | _ => none := rfl
@[simp] theorem setD_e (i : Nat) (d : PyData) (δ : Dt) : setD i d δ = some (δ.set i (some d)) := rfl
@[simp] theorem gsNil_e (δ : Dt) : gsNil [] δ = some δ := rfl
@[simp] theorem gsCons_e (g : PyData → Dt → Option Dt) (h : List PyData → Dt → Option Dt) (d : PyData) (r : List PyData) (δ : Dt) : gsCons g h (d :: r) δ = (g d δ).bind (h r) := rfl
@[simp] theorem gT_e (n : Nat) (h : List PyData → Dt → Option Dt) (l : List PyData) (δ : Dt) : gT n h (.tuple l) δ = if l.length = n then h l δ else none := rfl
@[simp] theorem outRs_nx (δ : Dt) : outRs (.nx δ) = some (.ok .none) := rfl
@[simp] theorem outRs_rt (d : PyData) (δ : Dt) : outRs (.rt d δ) = some (.ok d) := rfl
@[simp] theorem outRs_ex (c : Nat) (δ : Dt) : outRs (.ex c δ) = some (.ex c) := rfl
theorem szOk_e {l : List PyData} (h : l.length ≤ 16777216) : szOk l = some l := if_pos (by rw [sizeLine_eq]; exact h)
@[simp] theorem szOk_nil : szOk [] = some [] := szOk_e (by simp)
@[simp] theorem szOk_1 (a : PyData) : szOk [a] = some [a] := szOk_e (by simp)
@[simp] theorem szOk_2 (a b : PyData) : szOk [a, b] = some [a, b] := szOk_e (by simp)
@[simp] theorem szOk_3 (a b c : PyData) : szOk [a, b, c] = some [a, b, c] := szOk_e (by simp)
@[simp] theorem szOk_4 (a b c d : PyData) : szOk [a, b, c, d] = some [a, b, c, d] := szOk_e (by simp)
@[simp] theorem szOk_5 (a b c d e : PyData) : szOk [a, b, c, d, e] = some [a, b, c, d, e] := szOk_e (by simp)
theorem asL_e (f : Dt → Option PyData) (δ : Dt) {l : List PyData} (h : f δ = some (.list l)) : asL f δ = some (.list l) := by unfold asL; rw [h]
theorem gN_e {n : Nat} {g : List PyData → Option Rs} {ds : List PyData} {d : PyData} (h : g ds = some (.ok d)) (hl : ds.length = n) : gN n g ds = some d := by
  unfold gN okOf
  rw [if_pos hl, h]
theorem ixD_l {l : List PyData} {i : Nat} {d : PyData} (h : l[i]? = some d) : ixD (.list l) (.int i) = some d := by
  show atI l i = some d
  exact atI_nat h
theorem ixD_t {l : List PyData} {i : Nat} {d : PyData} (h : l[i]? = some d) : ixD (.tuple l) (.int i) = some d := by
  show atI l i = some d
  exact atI_nat h
@[simp] theorem ixT0 (a : PyData) (l : List PyData) : ixD (.tuple (a :: l)) (.int 0) = some a := ixD_t (i := 0) rfl
@[simp] theorem ixT1 (a b : PyData) (l : List PyData) : ixD (.tuple (a :: b :: l)) (.int 1) = some b := ixD_t (i := 1) rfl
@[simp] theorem ixT2 (a b c : PyData) (l : List PyData) : ixD (.tuple (a :: b :: c :: l)) (.int 2) = some c := ixD_t (i := 2) rfl
@[simp] theorem ixT3 (a b c d : PyData) (l : List PyData) : ixD (.tuple (a :: b :: c :: d :: l)) (.int 3) = some d := ixD_t (i := 3) rfl
@[simp] theorem ixT4 (a b c d e : PyData) (l : List PyData) : ixD (.tuple (a :: b :: c :: d :: e :: l)) (.int 4) = some e := ixD_t (i := 4) rfl
/-! ### skies -/
structure Look where
  w : Int
  s : Int
  n : Int
  a : Int
  z : Int
deriving DecidableEq
structure Ear where
  f : Int
  l : Int
  r : Int
deriving DecidableEq
structure Sky where
  looks : List Look
  worths : List Int
  ears : List Ear
  cap : Int
  turn : Int
def encL (l : Look) : PyData := .tuple [.int l.w, .int l.s, .int l.n, .int l.a, .int l.z]
def encE (e : Ear) : PyData := .tuple [.int e.f, .int e.l, .int e.r]
def encS' (S : Sky) : PyData := .tuple [.list (S.looks.map encL), .list (S.worths.map .int), .list (S.ears.map encE), .int S.cap, .int S.turn]
/-- the look of a number -/
def Sky.at (S : Sky) (i : Int) : Look := S.looks.getD i.toNat ⟨0, 0, 0, 0, 0⟩
def Sky.has (S : Sky) (i : Int) : Prop := 0 ≤ i ∧ i < S.looks.length
theorem ix_look {S : Sky} {i : Int} (h : S.has i) : ixD (.list (S.looks.map encL)) (.int i) = some (encL (S.at i)) := by
  obtain ⟨h1, h2⟩ := h
  obtain ⟨n, rfl⟩ : ∃ n : Nat, i = n := ⟨i.toNat, by omega⟩
  have hl : n < S.looks.length := by omega
  refine ixD_l ?_
  rw [List.getElem?_map, List.getElem?_eq_getElem hl]
  simp [Sky.at, List.getD, List.getElem?_eq_getElem hl]
/-! ### the parts -/
theorem is_within_e (v lo hi : Int) : f_is_within [.int v, .int lo, .int hi] = some (.ok (.bool (decide (lo ≤ v ∧ v ≤ hi)))) := by
  unfold f_is_within h_is_within runP startD
  simp [isTy, tyName, tbInt, tbBool, chD]
  by_cases h : lo ≤ v <;> simp [h]
def Sky.endOf (S : Sky) (i : Int) : Int := (S.at i).s + (S.at i).n
theorem end_of_e {S : Sky} {i : Int} (h : S.has i) : f_end_of [encS' S, .int i] = some (.ok (.int (S.endOf i))) := by
  unfold f_end_of h_end_of runP startD
  simp [encS', ix_look h, encL, Sky.endOf]
def Sky.turning (S : Sky) (i j : Int) : Int := -(-(if (S.at j).a - (S.at i).a < 0 then -((S.at j).a - (S.at i).a) else (S.at j).a - (S.at i).a) / S.turn)
theorem turning_e {S : Sky} {i j : Int} (hi : S.has i) (hj : S.has j) (ht : 0 < S.turn ∧ S.turn < 1073741824) : f_turning [encS' S, .int i, .int j] = some (.ok (.int (S.turning i j))) := by
  unfold f_turning h_turning runP startD
  simp [encS', ix_look hi, ix_look hj, encL, Sky.turning, fdivP_e ht]
end Sk
set_option Elab.async false
set_option linter.all false
set_option maxRecDepth 100000
set_option maxHeartbeats 4000000
/-! Loops run; storage; plans. -/
namespace Sk
open PySem L2 Dl
/-! ### data that is compared -/
theorem canLay_ints : ∀ l : List Int, PyData.canLayAll0 (l.map .int) = true
  | [] => rfl
  | i :: r => by
    show (PyData.canLay0 (.int i) && PyData.canLayAll0 (r.map .int)) = true
    rw [canLay_ints r]; rfl
theorem shaped_int (i : Int) : SeqAt.shaped (.int i) = true := rfl
theorem shaped_ints (l : List Int) : SeqAt.shaped (.list (l.map .int)) = true := by
  unfold SeqAt.shaped
  have h : (PyData.list (l.map .int)).canLay0 = true := canLay_ints l
  have hd : (PyData.list (l.map .int)).depth ≤ 64 := by rw [PyData.depth, PySem.W.depth_ints]; decide
  rw [h, decide_eq_true hd]; rfl
theorem any_ints (x : Int) : ∀ l : List Int, ((l.map PyData.int).any fun z => PyData.eqv z (.int x)) = decide (x ∈ l)
  | [] => by simp
  | i :: r => by
    rw [List.map_cons, List.any_cons, any_ints x r]
    show ((i == x) || decide (x ∈ r)) = _
    by_cases h : i = x
    · simp [h]
    · have h' : ¬ x = i := fun z => h z.symm
      simp [h, h']
@[simp] theorem inD_ints (x : Int) (l : List Int) : inD (.int x) (.list (l.map .int)) = some (.bool (decide (x ∈ l))) := by
  unfold inD
  dsimp only
  rw [if_pos (by rw [shaped_int, shaped_ints]; rfl), any_ints]
@[simp] theorem notInD_ints (x : Int) (l : List Int) : notInD (.int x) (.list (l.map .int)) = some (.bool (!decide (x ∈ l))) := by
  unfold notInD
  dsimp only
  rw [if_pos (by rw [shaped_int, shaped_ints]; rfl), any_ints]
@[simp] theorem stApp_e (i : Nat) (f : Dt → Option PyData) (δ : Dt) : stApp i f δ = match (δ[i]?).join, f δ with
  | some (.list l), some d => if l.length < sizeLine then some (.nx (δ.set i (some (.list (l ++ [d]))))) else none
  | _, _ => none := rfl
/-! ### loops -/
/-- data one by one -/
inductive Al {α : Type} (r : α → PyData → Prop) : List α → List PyData → Prop
  | nil : Al r [] []
  | cons {x : α} {d : PyData} {xs : List α} {ds : List PyData} : r x d → Al r xs ds → Al r (x :: xs) (d :: ds)
theorem Al.map {α : Type} {f : α → PyData} : ∀ xs : List α, Al (fun x d => d = f x) xs (xs.map f)
  | [] => .nil
  | _ :: r => .cons rfl (Al.map r)
def Go (o : Out) (P : Dt → Prop) : Prop := (∃ δ, o = .nx δ ∧ P δ) ∨ ∃ δ, o = .ct δ ∧ P δ
def Halt : Out → Prop
  | .rt _ _ => True
  | .ex _ _ => True
  | _ => False
/-- a loop: each turn steps, or ends the def -/
theorem forL_run {α σ : Type} {r : α → PyData → Prop} {g : PyData → Dt → Option Dt} {fb : Dt → Option Out} (R : σ → Dt → Prop) (Ex : Out → Prop) (hEx : ∀ o, Ex o → Halt o) (step : σ → α → Option σ) : ∀ {xs : List α} {ds : List PyData}, Al r xs ds → ∀ (s : σ) (δ : Dt), R s δ →
    (∀ s x d δ, x ∈ xs → r x d → R s δ → ∃ δ1 o, g d δ = some δ1 ∧ fb δ1 = some o ∧ (match step s x with
      | some s' => Go o (R s')
      | none => Ex o)) →
    ∃ o, forL g fb ds δ = some o ∧ (match xs.foldlM step s with
      | some s' => ∃ δ', o = .nx δ' ∧ R s' δ'
      | none => Ex o)
  | _, _, .nil, s, δ, h, _ => ⟨.nx δ, rfl, δ, rfl, h⟩
  | x :: xs, d :: ds, .cons hr t, s, δ, h, H => by
    obtain ⟨δ1, o, h1, h2, h3⟩ := H s x d δ List.mem_cons_self hr h
    have H' : ∀ s x d δ, x ∈ xs → r x d → R s δ → ∃ δ1 o, g d δ = some δ1 ∧ fb δ1 = some o ∧ (match step s x with
      | some s' => Go o (R s')
      | none => Ex o) := fun s x d δ hx => H s x d δ (List.mem_cons_of_mem _ hx)
    rw [List.foldlM_cons]
    show ∃ o, ((g d δ).bind fun δ1 => (fb δ1).bind fun o => match o with
      | .nx δ2 => forL g fb ds δ2
      | .ct δ2 => forL g fb ds δ2
      | .bk δ2 => some (.nx δ2)
      | o => some o) = some o ∧ _
    rw [h1, Option.bind_some, h2, Option.bind_some]
    cases hs : step s x with
    | none =>
      rw [hs] at h3
      have hh := hEx o h3
      refine ⟨o, ?_, h3⟩
      cases o <;> first | rfl | exact hh.elim
    | some s' =>
      rw [hs] at h3
      rcases h3 with ⟨δ2, rfl, h4⟩ | ⟨δ2, rfl, h4⟩
      · exact forL_run R Ex hEx step t s' δ2 h4 H'
      · exact forL_run R Ex hEx step t s' δ2 h4 H'
/-- a loop that runs through -/
theorem forL_fold {α σ : Type} {r : α → PyData → Prop} {g : PyData → Dt → Option Dt} {fb : Dt → Option Out} (R : σ → Dt → Prop) (step : σ → α → σ) {xs : List α} {ds : List PyData} (al : Al r xs ds) (s : σ) (δ : Dt) (h : R s δ)
    (H : ∀ s x d δ, x ∈ xs → r x d → R s δ → ∃ δ1 o, g d δ = some δ1 ∧ fb δ1 = some o ∧ Go o (R (step s x))) : ∃ δ', forL g fb ds δ = some (.nx δ') ∧ R (xs.foldl step s) δ' := by
  obtain ⟨o, h1, h2⟩ := forL_run (r := r) R (fun _ => False) (fun _ z => z.elim) (fun s x => some (step s x)) al s δ h H
  have e : ∀ (xs : List α) (s : σ), xs.foldlM (m := Option) (fun s x => some (step s x)) s = some (xs.foldl step s) := by
    intro xs
    induction xs with
    | nil => intro s; rfl
    | cons x xs ih => intro s; rw [List.foldlM_cons]; exact ih _
  rw [e] at h2
  obtain ⟨δ', rfl, h3⟩ := h2
  exact ⟨δ', h1, h3⟩
theorem enum_al {α : Type} {f : α → PyData} (xs : List α) : Al (fun x d => ∃ i : Int, d = .tuple [.int i, f x]) xs (enumL (xs.map f)) := by
  have key : ∀ (xs : List α) (n : Nat), Al (fun x d => ∃ i : Int, d = .tuple [.int i, f x]) xs ((xs.map f).mapIdx fun i d => .tuple [.int ((n + i : Nat) : Int), d]) := by
    intro xs
    induction xs with
    | nil => intro n; exact .nil
    | cons x xs ih =>
      intro n
      rw [List.map_cons, List.mapIdx_cons]
      refine .cons ⟨_, rfl⟩ ?_
      have z := ih (n + 1)
      have e : (fun (i : Nat) d => PyData.tuple [.int ((n + 1 + i : Nat) : Int), d]) = fun (i : Nat) d => PyData.tuple [.int ((n + (i + 1) : Nat) : Int), d] := by
        funext i d
        have : n + 1 + i = n + (i + 1) := by omega
        rw [this]
      rw [e] at z
      exact z
  have z := key xs 0
  unfold enumL
  simpa using z
/-! ### valid skies -/
structure Valid (S : Sky) : Prop where
  nw : 1 ≤ S.worths.length ∧ S.worths.length ≤ 6
  wr : ∀ w ∈ S.worths, 0 ≤ w ∧ w ≤ 99
  nl : S.looks.length ≤ 16
  lk : ∀ l ∈ S.looks, (0 ≤ l.w ∧ l.w < S.worths.length) ∧ (0 ≤ l.s ∧ l.s ≤ 200) ∧ (1 ≤ l.n ∧ l.n ≤ 20) ∧ (-90 ≤ l.a ∧ l.a ≤ 90) ∧ (1 ≤ l.z ∧ l.z ≤ 30)
  srt : S.looks.Pairwise fun a b => a.s ≤ b.s
  ne : S.ears.length ≤ 4
  er : ∀ e ∈ S.ears, (0 ≤ e.f ∧ e.f < e.l ∧ e.l ≤ 200) ∧ (1 ≤ e.r ∧ e.r ≤ 30)
  cp : 1 ≤ S.cap ∧ S.cap ≤ 30
  tn : 1 ≤ S.turn ∧ S.turn ≤ 90
def eLoss (es : List Ear) (a b : Int) : Int := es.foldl (fun acc e => acc + e.r * max 0 (min b e.l - max a e.f)) 0
theorem loss_e {es : List Ear} (he : ∀ e ∈ es, 1 ≤ e.r ∧ e.r ≤ 30) (a b : Int) : f_loss [.list (es.map encE), .int a, .int b] = some (.ok (.int (eLoss es a b))) := by
  unfold f_loss h_loss runP startD
  obtain ⟨δ', h1, x4, x5, x6, h2⟩ := forL_fold (r := fun e d => d = encE e) (g := gT 3 (gsCons (setD 4) (gsCons (setD 5) (gsCons (setD 6) gsNil))))
    (fb := lp_loss_1)
    (fun (acc : Int) δ => ∃ x4 x5 x6, δ = [some (.list (es.map encE)), some (.int a), some (.int b), some (.int acc), x4, x5, x6]) (fun acc e => acc + e.r * max 0 (min b e.l - max a e.f)) (Al.map es) 0 [some (.list (es.map encE)), some (.int a), some (.int b), some (.int 0), none, none, none] ⟨_, _, _, rfl⟩ (by
      rintro acc e d δ hm rfl ⟨x4, x5, x6, rfl⟩
      refine ⟨[some (.list (es.map encE)), some (.int a), some (.int b), some (.int acc), some (.int e.f), some (.int e.l), some (.int e.r)], .nx _, by simp [encE], ?_, .inl ⟨_, rfl, ⟨some (.int e.f), some (.int e.l), some (.int e.r), rfl⟩⟩⟩
      have hr := he e hm
      unfold lp_loss_1
      simp [mulI_e (i := e.r) (j := max 0 (min b e.l - max a e.f)) (.inl ⟨by omega, by omega⟩)])
  subst h2
  simp [h1]
  rfl
def Sky.loss (S : Sky) (a b : Int) : Int := eLoss S.ears a b
theorem Valid.rates {S : Sky} (v : Valid S) : ∀ e ∈ S.ears, 1 ≤ e.r ∧ e.r ≤ 30 := fun e h => (v.er e h).2
theorem emptied_e {S : Sky} (he : ∀ e ∈ S.ears, 1 ≤ e.r ∧ e.r ≤ 30) (m a b : Int) : f_emptied [encS' S, .int m, .int a, .int b] = some (.ok (.int (max 0 (m - S.loss a b)))) := by
  unfold f_emptied h_emptied runP startD
  simp [encS', gN_e (n := 3) (loss_e he a b) rfl, Sky.loss]
def Sky.follows (S : Sky) (i j : Int) : Bool := decide (S.endOf i + S.turning i j ≤ (S.at j).s)
theorem follows_e {S : Sky} {i j : Int} (v : Valid S) (hi : S.has i) (hj : S.has j) : f_follows [encS' S, .int i, .int j] = some (.ok (.bool (S.follows i j))) := by
  have ht : 0 < S.turn ∧ S.turn < 1073741824 := by have := v.tn; omega
  have e1 := gN_e (n := 2) (end_of_e hi) rfl
  have e2 := gN_e (n := 3) (turning_e hi hj ht) rfl
  unfold f_follows h_follows runP startD
  simp [e1, e2]
  simp [encS', ix_look hj, encL, Sky.follows]
def encO : Option Int → PyData
  | none => .none
  | some i => .int i
@[simp] theorem encO_none : encO none = .none := rfl
@[simp] theorem encO_some (i : Int) : encO (some i) = .int i := rfl
@[simp] theorem isNone_encO (o : Option Int) : isNone (encO o) = o.isNone := by cases o <;> rfl
def Sky.stored (S : Sky) (l : Option Int) (m t : Int) : Int := match l with
  | none => 0
  | some i => max 0 (m - S.loss (S.endOf i) t)
@[simp] theorem aCat_e (n m : Nat) (f g : Dt → Option (List PyData)) (δ : Dt) : aCat n m f g δ = (f δ).bind fun a => (g δ).bind fun b => if a.length = n ∧ b.length = m then some (a ++ b) else none := rfl
theorem stored_at_e {S : Sky} (v : Valid S) {l : Option Int} (hl : ∀ i, l = some i → S.has i) (m t : Int) : f_stored_at [encS' S, encO l, .int m, .int t] = some (.ok (.int (S.stored l m t))) := by
  unfold f_stored_at h_stored_at runP startD
  cases l with
  | none => simp [Sky.stored]
  | some i =>
    have e1 := gN_e (n := 2) (end_of_e (hl i rfl)) rfl
    have e2 := gN_e (n := 4) (emptied_e v.rates m (S.endOf i) t) rfl
    simp [Sky.stored, e1, e2]
def Sky.behind (S : Sky) (l : Option Int) (m j : Int) : Option Int := if S.cap < S.stored l m (S.at j).s + (S.at j).z then none else some (S.stored l m ((S.at j).s + (S.at j).n) + (S.at j).z)
theorem level_behind_e {S : Sky} (v : Valid S) {l : Option Int} (hl : ∀ i, l = some i → S.has i) (m : Int) {j : Int} (hj : S.has j) : f_level_behind [encS' S, encO l, .int m, .int j] = some (.ok (encO (S.behind l m j))) := by
  have e1 := gN_e (n := 4) (stored_at_e v hl m (S.at j).s) rfl
  have e2 := gN_e (n := 4) (stored_at_e v hl m ((S.at j).s + (S.at j).n)) rfl
  have e3 : ixD (encS' S) (.int 0) = some (.list (S.looks.map encL)) := by simp [encS']
  have e4 : ixD (encS' S) (.int 3) = some (.int S.cap) := by simp [encS']
  unfold f_level_behind h_level_behind runP startD
  simp [e3, ix_look hj, encL, e1, e4]
  unfold Sky.behind
  by_cases h : S.cap < S.stored l m (S.at j).s + (S.at j).z
  · simp [h]
  · simp [h, e2]
/-! ### plans -/
structure Acc where
  last : Option Int
  amt : Int
  seen : List Int
def Sky.nxt (S : Sky) (c : Acc) (j : Int) : Option Acc :=
  if (∃ l, c.last = some l ∧ j ≤ l) then none
  else if (S.at j).w ∈ c.seen then none
  else if (∃ l, c.last = some l ∧ S.follows l j = false) then none
  else (S.behind c.last c.amt j).map fun a => ⟨some j, a, c.seen ++ [(S.at j).w]⟩
def Sky.run (S : Sky) (p : List Int) : Option Acc := p.foldlM S.nxt ⟨none, 0, []⟩
theorem getL {S : Sky} : ixD (encS' S) (.int 0) = some (.list (S.looks.map encL)) := by simp [encS']
/-- what the run keeps -/
def AccOk (S : Sky) (c : Acc) : Prop := (c.last = none → c.seen = []) ∧ ∀ l, c.last = some l → S.has l ∧ (c.seen.length : Int) ≤ l + 1
theorem Sky.nxt_ok {S : Sky} {c c' : Acc} {j : Int} (h : AccOk S c) (hj : S.has j) (e : S.nxt c j = some c') : AccOk S c' := by
  unfold Sky.nxt at e
  split at e
  · cases e
  · rename_i h1
    split at e
    · cases e
    · split at e
      · cases e
      · obtain ⟨a, _, rfl⟩ := Option.map_eq_some_iff.mp e
        refine ⟨(fun z => nomatch z), fun l z => ?_⟩
        cases z
        refine ⟨hj, ?_⟩
        show ((c.seen ++ [(S.at j).w]).length : Int) ≤ j + 1
        rw [List.length_append]
        cases hl : c.last with
        | none =>
          rw [h.1 hl]
          have := hj.1
          simp
          omega
        | some l =>
          have h2 := (h.2 l hl).2
          have h3 : ¬ j ≤ l := fun z => h1 ⟨l, hl, z⟩
          simp
          omega
theorem wrong_turn {S : Sky} (v : Valid S) {c : Acc} (ok : AccOk S c) {j : Int} (hj : S.has j) (P : PyData) (i : Int) :
    (match S.nxt c j with
    | some c' => lp_wrong_in_1 [some (encS' S), some P, some (encO c.last), some (.int c.amt), some (.list (c.seen.map .int)), some (.int i), some (.int j)] = some (.nx [some (encS' S), some P, some (encO c'.last), some (.int c'.amt), some (.list (c'.seen.map .int)), some (.int i), some (.int j)])
    | none => ∃ d δ, lp_wrong_in_1 [some (encS' S), some P, some (encO c.last), some (.int c.amt), some (.list (c.seen.map .int)), some (.int i), some (.int j)] = some (.rt d δ) ∧ isNone d = false) := by
  have e4 := gN_e (n := 4) (level_behind_e v (l := c.last) (fun l z => (ok.2 l z).1) c.amt hj) rfl
  have size : c.seen.length < sizeLine := by
    rw [sizeLine_eq]
    cases hl : c.last with
    | none => rw [ok.1 hl]; simp
    | some l =>
      obtain ⟨h1, h2⟩ := ok.2 l hl
      have := h1.2
      have := v.nl
      omega
  unfold lp_wrong_in_1
  cases hl : c.last with
  | none =>
    rw [hl] at e4
    unfold Sky.nxt
    by_cases c2 : (S.at j).w ∈ c.seen
    · simp [hl, c2, getL, ix_look hj, encL]
    · simp only [hl]
      cases hb : S.behind none c.amt j with
      | none =>
        rw [hb] at e4
        simp only [encO_none, encO_some] at e4
        simp [c2, hb, getL, ix_look hj, encL, e4]
      | some a =>
        rw [hb] at e4
        simp only [encO_none, encO_some] at e4
        simp [c2, hb, getL, ix_look hj, encL, e4, size]
  | some l =>
    rw [hl] at e4
    have e5 := gN_e (n := 3) (follows_e v (ok.2 l hl).1 hj) rfl
    unfold Sky.nxt
    by_cases c1 : j ≤ l
    · simp [hl, c1]
    · by_cases c2 : (S.at j).w ∈ c.seen
      · simp [hl, c1, c2, getL, ix_look hj, encL]
      · simp only [hl]
        cases hf : S.follows l j with
        | false =>
          rw [hf] at e5
          simp [c1, c2, hf, getL, ix_look hj, encL, e5]
        | true =>
          rw [hf] at e5
          cases hb : S.behind (some l) c.amt j with
          | none =>
            rw [hb] at e4
            simp only [encO_none, encO_some] at e4
            simp [c1, c2, hf, hb, getL, ix_look hj, encL, e5, e4]
          | some a =>
            rw [hb] at e4
            simp only [encO_none, encO_some] at e4
            simp [c1, c2, hf, hb, getL, ix_look hj, encL, e5, e4, size]
theorem wrong_in_e {S : Sky} (v : Valid S) {p : List Int} (hp : ∀ i ∈ p, S.has i) : ∃ d, f_wrong_in [encS' S, encR p] = some (.ok d) ∧ isNone d = (S.run p).isSome := by
  let R : Acc → Dt → Prop := fun c δ => AccOk S c ∧ ∃ x5 x6, δ = [some (encS' S), some (encR p), some (encO c.last), some (.int c.amt), some (.list (c.seen.map .int)), x5, x6]
  obtain ⟨o, h1, h2⟩ := forL_run (r := fun x d => ∃ i : Int, d = .tuple [.int i, .int x]) (g := gT 2 (gsCons (setD 5) (gsCons (setD 6) gsNil))) (fb := lp_wrong_in_1) R (fun o => ∃ d δ, o = .rt d δ ∧ isNone d = false) (fun o ⟨d, δ, e, _⟩ => by rw [e]; trivial) S.nxt (enum_al (f := PyData.int) p) ⟨none, 0, []⟩ [some (encS' S), some (encR p), some .none, some (.int 0), some (.list []), none, none] ⟨⟨fun _ => rfl, fun l z => nomatch z⟩, none, none, rfl⟩ (by
      rintro c j d δ hj ⟨i, rfl⟩ ⟨ok, x5, x6, rfl⟩
      have hj' := hp j hj
      have t := wrong_turn v ok hj' (encR p) i
      refine ⟨[some (encS' S), some (encR p), some (encO c.last), some (.int c.amt), some (.list (c.seen.map .int)), some (.int i), some (.int j)], ?_⟩
      cases hn : S.nxt c j with
      | none =>
        rw [hn] at t
        obtain ⟨d, δ, t1, t2⟩ := t
        exact ⟨_, by simp, t1, d, δ, rfl, t2⟩
      | some c' =>
        rw [hn] at t
        exact ⟨_, by simp, t, .inl ⟨_, rfl, Sky.nxt_ok ok hj' hn, _, _, rfl⟩⟩)
  unfold f_wrong_in h_wrong_in runP startD
  have e : (p.foldlM S.nxt ⟨none, 0, []⟩) = S.run p := rfl
  rw [e] at h2
  cases hr : S.run p with
  | none =>
    rw [hr] at h2
    obtain ⟨d, δ, rfl, h3⟩ := h2
    refine ⟨d, ?_, by rw [h3]; rfl⟩
    simp [asL, enumI]
    simp [h1]
  | some c =>
    rw [hr] at h2
    obtain ⟨δ, rfl, _, x5, x6, h3⟩ := h2
    refine ⟨.none, ?_, rfl⟩
    simp [asL, enumI]
    simp [h1]
def Sky.isPlan (S : Sky) (p : List Int) : Bool := (S.run p).isSome
theorem is_plan_e {S : Sky} (v : Valid S) {p : List Int} (hp : ∀ i ∈ p, S.has i) : f_is_plan [encS' S, encR p] = some (.ok (.bool (S.isPlan p))) := by
  obtain ⟨d, h1, h2⟩ := wrong_in_e v hp
  have e := gN_e (n := 2) h1 rfl
  unfold f_is_plan h_is_plan runP startD
  simp [e, h2, Sky.isPlan]
end Sk
set_option Elab.async false
set_option linter.all false
set_option maxRecDepth 100000
set_option maxHeartbeats 4000000
/-! Comprehensions; worths; what a plan keeps. -/
namespace Sk
open PySem L2 Dl
theorem lc_map {α : Type} {f : α → PyData} {g : PyData → Dt → Option Dt} {tt : Dt → Option Bool} {te : Dt → Option PyData} {δ : Dt} (p : α → Bool) (e : α → PyData) : ∀ (xs : List α), (∀ x ∈ xs, ∃ δ1, g (f x) δ = some δ1 ∧ tt δ1 = some (p x) ∧ (p x = true → te δ1 = some (e x))) → lcL g tt te δ (xs.map f) = some ((xs.filter p).map e)
  | [], _ => rfl
  | x :: xs, h => by
    obtain ⟨δ1, h1, h2, h3⟩ := h x List.mem_cons_self
    have ih := lc_map p e xs fun y hy => h y (List.mem_cons_of_mem _ hy)
    rw [List.map_cons]
    unfold lcL
    rw [h1, Option.bind_some, h2, Option.bind_some]
    cases hp : p x with
    | true =>
      rw [if_pos rfl, h3 hp, Option.bind_some, ih, List.filter_cons_of_pos hp]
      rfl
    | false => rw [if_neg (by simp), ih, List.filter_cons_of_neg (by simp [hp])]
theorem lc_all {α : Type} {f : α → PyData} {g : PyData → Dt → Option Dt} {te : Dt → Option PyData} {δ : Dt} (e : α → PyData) (xs : List α) (h : ∀ x ∈ xs, ∃ δ1, g (f x) δ = some δ1 ∧ te δ1 = some (e x)) : lcL g (fun _ => some true) te δ (xs.map f) = some (xs.map e) := by
  have z := lc_map (tt := fun _ => some true) (fun _ => true) e xs fun x hx => let ⟨δ1, h1, h2⟩ := h x hx; ⟨δ1, h1, rfl, fun _ => h2⟩
  rw [z, List.filter_eq_self.mpr (fun _ _ => rfl)]
theorem lcD_e {vs : List Nat} {fi : Dt → Option (List PyData)} {g : PyData → Dt → Option Dt} {tt : Dt → Option Bool} {te : Dt → Option PyData} {δ : Dt} {ds ys : List PyData} (h1 : fi δ = some ds) (hl : ds.length ≤ 16777216) (h2 : lcL g tt te (wipeD δ vs) ds = some ys) : lcD vs fi g tt te δ = some (.list ys) := by
  unfold lcD
  rw [h1, Option.bind_some, if_pos (by rw [sizeLine_eq]; exact hl), h2]
  rfl
theorem intsOf_map : ∀ l : List Int, intsOf (l.map .int) = some l
  | [] => rfl
  | i :: r => by
    show (intsOf (r.map .int)).map (i :: ·) = _
    rw [intsOf_map r]; rfl
theorem boolsOf_map : ∀ l : List Bool, boolsOf (l.map .bool) = some l
  | [] => rfl
  | i :: r => by
    show (boolsOf (r.map .bool)).map (i :: ·) = _
    rw [boolsOf_map r]; rfl
@[simp] theorem sumD_e (l : List Int) : sumD [.list (l.map .int)] = some (.int l.sum) := by
  show (intsOf _).map _ = _
  rw [intsOf_map]; rfl
@[simp] theorem anyD_e (l : List Bool) : anyD [.list (l.map .bool)] = some (.bool (l.any id)) := by
  show (boolsOf _).map _ = _
  rw [boolsOf_map]; rfl
@[simp] theorem allD_e (l : List Bool) : allD [.list (l.map .bool)] = some (.bool (l.all id)) := by
  show (boolsOf _).map _ = _
  rw [boolsOf_map]; rfl
/-! ### worth -/
def Sky.wish (S : Sky) (i : Int) : Int := (S.at i).w
/-- the worths of the wishes below n that stand in ws -/
def wSum (W : List Int) (ws : List Int) : Nat → Int
  | 0 => 0
  | n + 1 => wSum W ws n + if (n : Int) ∈ ws then W.getD n 0 else 0
theorem wSum_add (W ws : List Int) (w : Int) (h : w ∉ ws) : ∀ n : Nat, wSum W (ws ++ [w]) n = wSum W ws n + if 0 ≤ w ∧ w < n then W.getD w.toNat 0 else 0
  | 0 => by
    have : ¬ (0 ≤ w ∧ w < ((0 : Nat) : Int)) := by omega
    simp [wSum, this]
    omega
  | n + 1 => by
    unfold wSum
    rw [wSum_add W ws w h n]
    by_cases e : w = n
    · subst e
      have h1 : (n : Int) ∈ ws ++ [(n : Int)] := by simp
      have h2 : ¬ ((0 : Int) ≤ n ∧ (n : Int) < n) := by omega
      have h3 : (0 : Int) ≤ n ∧ (n : Int) < ((n + 1 : Nat) : Int) := by omega
      rw [if_pos h1, if_neg h, if_neg h2, if_pos h3]
      simp
    · have h1 : (n : Int) ∈ ws ++ [w] ↔ (n : Int) ∈ ws := by
        simp only [List.mem_append, List.mem_singleton]
        constructor
        · rintro (z | z)
          · exact z
          · exact absurd z.symm e
        · exact .inl
      have h2 : (0 ≤ w ∧ w < ((n + 1 : Nat) : Int)) ↔ (0 ≤ w ∧ w < (n : Int)) := by omega
      simp only [h1, h2]
      omega
theorem wSum_congr (W : List Int) {ws us : List Int} (h : ∀ w, w ∈ ws ↔ w ∈ us) : ∀ n : Nat, wSum W ws n = wSum W us n
  | 0 => rfl
  | n + 1 => by
    unfold wSum
    rw [wSum_congr W h n]
    simp only [h]
def Sky.worth (S : Sky) (p : List Int) : Int := wSum S.worths (p.map S.wish) S.worths.length
/-- the wishes, each once, as they come -/
def addW (ws : List Int) (w : Int) : List Int := if w ∈ ws then ws else ws ++ [w]
theorem mem_addW {ws : List Int} {w x : Int} : x ∈ addW ws w ↔ x ∈ ws ∨ x = w := by
  unfold addW
  split
  · rename_i h
    constructor
    · exact .inl
    · rintro (z | rfl)
      · exact z
      · exact h
  · simp
theorem mem_adds {ws : List Int} : ∀ {l : List Int} {x : Int}, x ∈ l.foldl addW ws ↔ x ∈ ws ∨ x ∈ l := by
  intro l
  induction l generalizing ws with
  | nil => simp
  | cons y l ih =>
    intro x
    rw [List.foldl_cons, ih, mem_addW]
    simp only [List.mem_cons]
    constructor
    · rintro ((z | z) | z)
      · exact .inl z
      · exact .inr (.inl z)
      · exact .inr (.inr z)
    · rintro (z | z | z)
      · exact .inl (.inl z)
      · exact .inl (.inr z)
      · exact .inr z
theorem sum_adds (W : List Int) {n : Nat} : ∀ {l ws : List Int}, (∀ w ∈ ws, 0 ≤ w ∧ w < n) → (∀ w ∈ l, 0 ≤ w ∧ w < n) → (ws.map fun w => W.getD w.toNat 0).sum = wSum W ws n → ((l.foldl addW ws).map fun w => W.getD w.toNat 0).sum = wSum W (l.foldl addW ws) n := by
  intro l
  induction l with
  | nil => intro ws _ _ h; exact h
  | cons y l ih =>
    intro ws h1 h2 h3
    rw [List.foldl_cons]
    have hy := h2 y List.mem_cons_self
    refine ih (fun w hw => ?_) (fun w hw => h2 w (List.mem_cons_of_mem _ hw)) ?_
    · rcases mem_addW.mp hw with z | rfl
      · exact h1 w z
      · exact hy
    · unfold addW
      split
      · exact h3
      · rename_i hn
        rw [wSum_add W ws y hn, if_pos hy, List.map_append, List.sum_append, h3]
        simp
theorem adds_len {ws : List Int} : ∀ {l : List Int}, (l.foldl addW ws).length ≤ ws.length + l.length := by
  intro l
  induction l generalizing ws with
  | nil => simp
  | cons y l ih =>
    rw [List.foldl_cons]
    have h1 := ih (ws := addW ws y)
    have h2 : (addW ws y).length ≤ ws.length + 1 := by
      unfold addW
      split <;> simp
    rw [List.length_cons]
    omega
theorem getW {S : Sky} : ixD (encS' S) (.int 1) = some (.list (S.worths.map .int)) := by simp [encS']
theorem ix_int {l : List Int} {i : Int} (h : 0 ≤ i ∧ i < l.length) : ixD (.list (l.map .int)) (.int i) = some (.int (l.getD i.toNat 0)) := by
  obtain ⟨n, rfl⟩ : ∃ n : Nat, i = n := ⟨i.toNat, by omega⟩
  have hl : n < l.length := by omega
  refine ixD_l ?_
  rw [List.getElem?_map, List.getElem?_eq_getElem hl]
  simp [List.getD, List.getElem?_eq_getElem hl]
theorem at_mem {S : Sky} {i : Int} (h : S.has i) : S.at i ∈ S.looks := by
  obtain ⟨n, rfl⟩ : ∃ n : Nat, i = n := ⟨i.toNat, by have := h.1; omega⟩
  have hl : n < S.looks.length := by have := h.2; omega
  have e : S.at n = S.looks[n] := by simp [Sky.at, List.getD, List.getElem?_eq_getElem hl]
  rw [e]
  exact List.getElem_mem hl
theorem wish_in {S : Sky} (v : Valid S) {i : Int} (h : S.has i) : 0 ≤ S.wish i ∧ S.wish i < S.worths.length := (v.lk _ (at_mem h)).1
theorem worth_of_e {S : Sky} (v : Valid S) {p : List Int} (hp : ∀ i ∈ p, S.has i) (hl : p.length ≤ 1000) : f_worth_of [encS' S, encR p] = some (.ok (.int (S.worth p))) := by
  have key : ∀ (q : List Int) (ws : List Int) (x3 : Option PyData), (∀ i ∈ q, S.has i) → ws.length + q.length ≤ 1000 → ∃ x3', forL (setD 3) lp_worth_of_1 (q.map .int) [some (encS' S), some (encR p), some (.list (ws.map .int)), x3, none] = some (.nx [some (encS' S), some (encR p), some (.list (((q.map S.wish).foldl addW ws).map .int)), x3', none]) := by
    intro q
    induction q with
    | nil => intro ws x3 _ _; exact ⟨x3, rfl⟩
    | cons j q ih =>
      intro ws x3 hq hl
      have hj := hq j List.mem_cons_self
      rw [List.length_cons] at hl
      have e : forL (setD 3) lp_worth_of_1 ((j :: q).map .int) [some (encS' S), some (encR p), some (.list (ws.map .int)), x3, none] = forL (setD 3) lp_worth_of_1 (q.map .int) [some (encS' S), some (encR p), some (.list ((addW ws (S.wish j)).map .int)), some (.int j), none] := by
        rw [List.map_cons]
        conv => lhs; unfold forL
        unfold lp_worth_of_1
        have hsz : ws.length < sizeLine := by rw [sizeLine_eq]; omega
        by_cases c : (S.at j).w ∈ ws
        · simp [getL, ix_look hj, encL, c, addW, Sky.wish]
        · simp [getL, ix_look hj, encL, c, addW, Sky.wish, hsz]
      rw [e]
      have h2 : (addW ws (S.wish j)).length ≤ ws.length + 1 := by
        unfold addW
        split <;> simp
      obtain ⟨x3', h⟩ := ih (addW ws (S.wish j)) (some (.int j)) (fun i hi => hq i (List.mem_cons_of_mem _ hi)) (by omega)
      exact ⟨x3', h⟩
  obtain ⟨x3, h1⟩ := key p [] none hp (by simpa using hl)
  have hin : ∀ w ∈ (p.map S.wish).foldl addW [], 0 ≤ w ∧ w < (S.worths.length : Int) := fun w hw => by
    rcases mem_adds.mp hw with z | z
    · cases z
    · obtain ⟨i, hi, rfl⟩ := List.mem_map.mp z
      exact wish_in v (hp i hi)
  have hlen := adds_len (ws := []) (l := p.map S.wish)
  obtain ⟨ws, hws⟩ : ∃ ws, ws = (p.map S.wish).foldl addW [] := ⟨_, rfl⟩
  rw [← hws] at hin hlen h1
  obtain ⟨L, hL⟩ : ∃ L, L = ws.map fun w => S.worths.getD w.toNat 0 := ⟨_, rfl⟩
  have h2 : cp_worth_of_1 [some (encS' S), some (encR p), some (.list (ws.map .int)), x3, none] = some (.list (L.map .int)) := by
    unfold cp_worth_of_1
    rw [hL, List.map_map]
    refine lcD_e (ds := ws.map .int) (by simp) (by simp at hlen ⊢; omega) ?_
    refine lc_all (f := PyData.int) _ ws fun w hw => ⟨[some (encS' S), some (encR p), some (.list (ws.map .int)), x3, some (.int w)], ?_, ?_⟩
    · simp [wipeD]
    · simp [getW, ix_int (hin w hw)]
  unfold f_worth_of h_worth_of runP startD
  have h3 : asL cp_worth_of_1 [some (encS' S), some (encR p), some (.list (ws.map .int)), x3, none] = some (.list (L.map .int)) := asL_e _ _ h2
  simp only [List.map_nil] at h1
  have h4 : asL (bA (fun l => (szOk l).map .list) aNil) [some (encS' S), some (encR p), none, none, none] = some (.list []) := by simp [asL]
  simp [h1, h3, h4]
  have key2 := sum_adds S.worths (l := p.map S.wish) (ws := []) (n := S.worths.length) (by simp) (fun w hw => by
    obtain ⟨i, hi, rfl⟩ := List.mem_map.mp hw
    exact wish_in v (hp i hi)) (by
    have : ∀ n, wSum S.worths [] n = 0 := by
      intro n
      induction n with
      | zero => rfl
      | succ n ih => unfold wSum; rw [ih]; simp
    rw [this]; rfl)
  rw [← hws, ← hL] at key2
  rw [key2]
  exact wSum_congr _ (fun w => by rw [hws, mem_adds]; simp) _
/-! ### what a plan keeps -/
def Sky.keeps (S : Sky) (p prom : List Int) : Bool := prom.all fun w => decide (w ∈ p.map S.wish)
theorem keeps_e {S : Sky} {p prom : List Int} (hp : ∀ i ∈ p, S.has i) (hl : p.length ≤ 1000) (hm : prom.length ≤ 1000) : f_keeps [encS' S, encR p, encR prom] = some (.ok (.bool (S.keeps p prom))) := by
  have h1 : asL cp_keeps_1 [some (encS' S), some (encR p), some (encR prom), none, none, none] = some (.list ((p.map S.wish).map .int)) := by
    refine asL_e _ _ ?_
    unfold cp_keeps_1
    refine lcD_e (ds := p.map .int) (by simp) (by simp; omega) ?_
    rw [List.map_map]
    refine lc_all (f := PyData.int) _ p fun i hi => ⟨[some (encS' S), some (encR p), some (encR prom), none, some (.int i), none], ?_, ?_⟩
    · simp [wipeD]
    · simp [getL, ix_look (hp i hi), encL, Sky.wish]
  obtain ⟨B, hB⟩ : ∃ B, B = prom.map fun w => decide (w ∈ p.map S.wish) := ⟨_, rfl⟩
  have h2 : asL cp_keeps_2 [some (encS' S), some (encR p), some (encR prom), some (.list ((p.map S.wish).map .int)), none, none] = some (.list (B.map .bool)) := by
    refine asL_e _ _ ?_
    unfold cp_keeps_2
    have eB : B.map PyData.bool = prom.map fun w => PyData.bool (decide (w ∈ p.map S.wish)) := by rw [hB, List.map_map] <;> rfl
    rw [eB]
    refine lcD_e (ds := prom.map .int) (by simp) (by simp; omega) ?_
    refine lc_all (f := PyData.int) _ prom fun w hw => ⟨[some (encS' S), some (encR p), some (encR prom), some (.list ((p.map S.wish).map .int)), none, some (.int w)], ?_, ?_⟩
    · simp only [wipeD, setD_e, List.set_cons_succ, List.set_cons_zero]
    · show (some (PyData.int w)).bind (fun x => (some (PyData.list ((p.map S.wish).map .int))).bind fun y => inD x y) = _
      rw [Option.bind_some, Option.bind_some, inD_ints]
  unfold f_keeps h_keeps runP startD
  simp only [List.map_cons, List.map_nil, List.length_cons, List.length_nil, List.replicate, List.cons_append, List.nil_append, sq_e, stSet_e, h1, Option.map_some, Option.bind_some, List.set_cons_succ, List.set_cons_zero, stRet_e, bA_e, aCons_e, aNil_e, h2, allD_e, outRs_rt]
  unfold Sky.keeps
  rw [hB, List.all_map]
  rfl
end Sk
set_option Elab.async false
set_option linter.all false
set_option maxRecDepth 100000
set_option maxHeartbeats 4000000
/-! All plans that begin so. -/
namespace Sk
open PySem L2 Dl
def frst (p : List Int) : Int := match p.getLast? with
  | none => 0
  | some l => l + 1
def rng (a b : Int) : List Int := (List.range (b - a).toNat).map fun (i : Nat) => a + (i : Int)
theorem mem_rng {a b x : Int} : x ∈ rng a b ↔ a ≤ x ∧ x < b := by
  unfold rng
  simp only [List.mem_map, List.mem_range]
  constructor
  · rintro ⟨i, h, rfl⟩
    omega
  · intro h
    exact ⟨(x - a).toNat, by omega, by omega⟩
def Sky.n (S : Sky) : Int := S.looks.length
def Sky.can (S : Sky) (now : Int) (p : List Int) (j : Int) : Bool := decide (now ≤ (S.at j).s) && S.isPlan (p ++ [j])
def Sky.kids (S : Sky) (now : Int) (p : List Int) : List (List Int) := ((rng (frst p) S.n).filter (S.can now p)).map fun j => p ++ [j]
inductive Reach (S : Sky) (now : Int) (begun : List Int) : List Int → Prop
  | base : Reach S now begun begun
  | step {p q : List Int} : Reach S now begun p → q ∈ S.kids now p → Reach S now begun q
structure Good (S : Sky) (p : List Int) : Prop where
  has : ∀ i ∈ p, S.has i
  len : (p.length : Int) ≤ frst p
  top : frst p ≤ S.n
theorem frst_snoc (p : List Int) (j : Int) : frst (p ++ [j]) = j + 1 := by simp [frst]
theorem Good.kid {S : Sky} {now : Int} {p q : List Int} (g : Good S p) (h : q ∈ S.kids now p) : Good S q := by
  obtain ⟨j, hj, rfl⟩ := List.mem_map.mp h
  obtain ⟨h1, h2⟩ := mem_rng.mp (List.mem_filter.mp hj).1
  have h0 : 0 ≤ frst p := by have := g.len; omega
  have hh : S.has j := ⟨by omega, h2⟩
  refine ⟨fun i hi => ?_, ?_, ?_⟩
  · rcases List.mem_append.mp hi with z | z
    · exact g.has i z
    · rw [List.mem_singleton.mp z]; exact hh
  · rw [frst_snoc, List.length_append]
    have := g.len
    simp
    omega
  · rw [frst_snoc]
    omega
theorem Reach.good {S : Sky} {now : Int} {b p : List Int} (g : Good S b) (h : Reach S now b p) : Good S p := by
  induction h with
  | base => exact g
  | step _ hq ih => exact ih.kid hq
/-- what is left to do -/
def Sky.wgt (S : Sky) (p : List Int) : Nat := 2 ^ (S.n - frst p).toNat
theorem Sky.wgt_pos (S : Sky) (p : List Int) : 1 ≤ S.wgt p := Nat.pos_pow_of_pos _ (by decide)
  where Nat.pos_pow_of_pos (k : Nat) (h : 0 < 2) : 1 ≤ 2 ^ k := Nat.one_le_two_pow
theorem sum_pow (n : Int) (f : Int → Bool) (p : List Int) (S : Sky) (hn : S.n = n) : ∀ (m : Nat) (a : Int), (n - a).toNat = m → a ≤ n → ((((rng a n).filter f).map fun j => p ++ [j]).map S.wgt).sum + 1 ≤ 2 ^ m := by
  intro m
  induction m with
  | zero =>
    intro a h1 h2
    have e : rng a n = [] := by unfold rng; rw [h1]; rfl
    rw [e]
    simp
  | succ m ih =>
    intro a h1 h2
    have e : rng a n = a :: rng (a + 1) n := by
      unfold rng
      have e1 : (n - (a + 1)).toNat = m := by omega
      rw [h1, e1, List.range_succ_eq_map, List.map_cons, List.map_map]
      congr 1
      · omega
      · refine List.map_congr_left fun i _ => ?_
        show a + ((i + 1 : Nat) : Int) = a + 1 + (i : Int)
        omega
    have hw : S.wgt (p ++ [a]) = 2 ^ m := by
      unfold Sky.wgt
      rw [frst_snoc, hn]
      congr 1
      omega
    have z := ih (a + 1) (by omega) (by omega)
    rw [e]
    by_cases c : f a = true
    · rw [List.filter_cons_of_pos c, List.map_cons, List.map_cons, List.sum_cons, hw, Nat.pow_succ]
      omega
    · rw [List.filter_cons_of_neg c, Nat.pow_succ]
      have := Nat.one_le_two_pow (n := m)
      omega
theorem Sky.kids_wgt (S : Sky) (now : Int) {p : List Int} (g : Good S p) : ((S.kids now p).map S.wgt).sum + 1 ≤ S.wgt p := by
  unfold Sky.kids
  exact sum_pow S.n _ p S rfl _ (frst p) rfl g.top
theorem len_wgt (S : Sky) : ∀ l : List (List Int), l.length ≤ (l.map S.wgt).sum
  | [] => by simp
  | p :: l => by
    have h1 := len_wgt S l
    have h2 := S.wgt_pos p
    rw [List.length_cons, List.map_cons, List.sum_cons]
    omega
theorem catL_e {a b : List PyData} (h : a.length + b.length ≤ 16777216) : catL (.list a) (.list b) = some (.list (a ++ b)) := if_pos (by rw [sizeLine_eq]; exact h)
/-- the inner loop -/
theorem plans_turn {S : Sky} (v : Valid S) (now : Int) (B : PyData) (at_ : Int) {p : List Int} (hp : ∀ i ∈ p, S.has i) (hl : p.length ≤ 1000) (f : Int) : ∀ (q : List Int) (fnd : List (List Int)) (x7 : Option PyData), (∀ j ∈ q, S.has j) → fnd.length + q.length ≤ 1000000 →
    ∃ x7', forL (setD 7) lp_plans_on_1 (q.map .int) [some (encS' S), some (.int now), some B, some (.list (fnd.map encR)), some (.int at_), some (encR p), some (.int f), x7] = some (.nx [some (encS' S), some (.int now), some B, some (.list ((fnd ++ (q.filter (S.can now p)).map fun j => p ++ [j]).map encR)), some (.int at_), some (encR p), some (.int f), x7']) := by
  intro q
  induction q with
  | nil => intro fnd x7 _ _; exact ⟨x7, by simp [forL]⟩
  | cons j q ih =>
    intro fnd x7 hq hs
    have hj := hq j List.mem_cons_self
    rw [List.length_cons] at hs
    have hpj : ∀ i ∈ p ++ [j], S.has i := fun i hi => by
      rcases List.mem_append.mp hi with z | z
      · exact hp i z
      · rw [List.mem_singleton.mp z]; exact hj
    have e1 := gN_e (n := 2) (is_plan_e v hpj) rfl
    have e2 : catL (encR p) (.list [.int j]) = some (encR (p ++ [j])) := by
      unfold encR
      rw [catL_e (by simp; omega), List.map_append]
      rfl
    have e3 : asL (bA (fun l => (szOk l).map .list) (aCons (vr 7) aNil)) [some (encS' S), some (.int now), some B, some (.list (fnd.map encR)), some (.int at_), some (encR p), some (.int f), some (.int j)] = some (.list [.int j]) := by simp [asL]
    have hsz : (fnd.map encR).length < sizeLine := by rw [sizeLine_eq, List.length_map]; omega
    rw [List.map_cons]
    unfold forL
    rw [setD_e, Option.bind_some]
    have body : lp_plans_on_1 ([some (encS' S), some (.int now), some B, some (.list (fnd.map encR)), some (.int at_), some (encR p), some (.int f), x7].set 7 (some (.int j))) = some (.nx [some (encS' S), some (.int now), some B, some (.list ((if S.can now p j = true then fnd ++ [p ++ [j]] else fnd).map encR)), some (.int at_), some (encR p), some (.int f), some (.int j)]) := by
      unfold lp_plans_on_1
      simp only [List.set_cons_succ, List.set_cons_zero]
      by_cases c1 : now ≤ (S.at j).s
      · cases c2 : S.isPlan (p ++ [j]) with
        | true =>
          rw [c2] at e1
          have hc : S.can now p j = true := by simp [Sky.can, c1, c2]
          rw [if_pos hc]
          simp [getL, ix_look hj, encL, c1, e3, e2, e1]
          simpa using hsz
        | false =>
          rw [c2] at e1
          have hc : ¬ S.can now p j = true := by simp [Sky.can, c2]
          rw [if_neg hc]
          simp [getL, ix_look hj, encL, c1, e3, e2, e1]
      · have hc : ¬ S.can now p j = true := by simp [Sky.can, c1]
        rw [if_neg hc]
        simp [getL, ix_look hj, encL, c1]
    rw [body, Option.bind_some]
    obtain ⟨x7', h⟩ := ih (if S.can now p j = true then fnd ++ [p ++ [j]] else fnd) (some (.int j)) (fun i hi => hq i (List.mem_cons_of_mem _ hi)) (by split <;> (try simp only [List.length_append, List.length_cons, List.length_nil]) <;> omega)
    refine ⟨x7', ?_⟩
    show forL (setD 7) lp_plans_on_1 (q.map .int) _ = _
    rw [h]
    by_cases c : S.can now p j = true
    · rw [if_pos c, List.filter_cons_of_pos c]; simp
    · rw [if_neg c, List.filter_cons_of_neg c]
end Sk
set_option Elab.async false
set_option linter.all false
set_option maxRecDepth 100000
set_option maxHeartbeats 4000000
/-! All plans that begin so: the outer loop. -/
namespace Sk
open PySem L2 Dl
@[simp] theorem truL_e (f : Dt → Option PyData) (δ : Dt) : truL f δ = (f δ).bind fun d => match d with
  | .list l => some (!l.isEmpty)
  | _ => none := rfl
@[simp] theorem stPar_e (i j : Nat) (fa : Dt → Option (List PyData)) (δ : Dt) : stPar i j fa δ = (fa δ).bind fun l => match l with
  | [a, b] => some (.nx ((δ.set i (some a)).set j (some b)))
  | _ => none := rfl
theorem rngL_e (lo hi : Int) : rngL lo (hi - lo).toNat = (rng lo hi).map .int := by
  unfold rngL rng
  rw [List.map_map]
  rfl
theorem rng2_e {i j : Int} (h : -(2 ^ 62) ≤ i ∧ i < 2 ^ 62 ∧ -(2 ^ 62) ≤ j ∧ j < 2 ^ 62) {f : Dt → Option (List PyData)} {δ : Dt} (hf : f δ = some [.int i, .int j]) : rng2 f δ = some ((rng i j).map .int) := by
  unfold rng2
  rw [hf, Option.bind_some]
  dsimp only
  rw [if_pos h, rngL_e]
theorem rng1_e {j : Int} (h : -(2 ^ 62) ≤ j ∧ j < 2 ^ 62) {f : Dt → Option (List PyData)} {δ : Dt} (hf : f δ = some [.int j]) : rng1 f δ = some ((rng 0 j).map .int) := by
  unfold rng1
  rw [hf, Option.bind_some]
  dsimp only
  rw [if_pos h, ← rngL_e]
  simp
theorem ix_last {p : List Int} {l : Int} (h : p.getLast? = some l) : ixD (encR p) (.int (-1)) = some (.int l) := by
  show L2.atI (p.map PyData.int) (-1) = _
  unfold L2.atI
  have hp : p ≠ [] := by rintro rfl; cases h
  have hl : 0 < p.length := List.length_pos_iff.mpr hp
  rw [List.getLast?_eq_getElem?] at h
  have e : ixN (p.map PyData.int).length (-1) = some (p.length - 1) := by
    unfold ixN
    rw [List.length_map, if_neg (by decide), if_pos (by omega)]
    congr 1
    omega
  rw [e, Option.bind_some, List.getElem?_map, h]
  rfl
theorem nxt_kid {S : Sky} (v : Valid S) {now : Int} {B : PyData} {fnd : List (List Int)} {a : Nat} {p : List Int} (hg : Good S p) (ha : fnd[a]? = some p) (x5 x6 x7 : Option PyData) (hlen : fnd.length ≤ 100000) :
    ∃ x7', lp_plans_on_2 [some (encS' S), some (.int now), some B, some (.list (fnd.map encR)), some (.int a), x5, x6, x7] = some (.nx [some (encS' S), some (.int now), some B, some (.list ((fnd ++ S.kids now p).map encR)), some (.int ((a + 1 : Nat) : Int)), some (encR p), some (.int (frst p)), x7']) := by
  have hn := v.nl
  have h0 := hg.len
  have h1 := hg.top
  have hpl : p.length ≤ 1000 := by unfold Sky.n at h1; omega
  have e1 : ixD (.list (fnd.map encR)) (.int a) = some (encR p) := ixD_l (by rw [List.getElem?_map, ha]; rfl)
  have hrl : (rng (frst p) S.n).length ≤ 16 := by
    unfold rng
    rw [List.length_map, List.length_range]
    unfold Sky.n
    omega
  obtain ⟨x7', t⟩ := plans_turn v now B ((a + 1 : Nat) : Int) hg.has hpl (frst p) (rng (frst p) S.n) fnd x7 (fun j hj => by
    obtain ⟨z1, z2⟩ := mem_rng.mp hj
    exact ⟨by omega, z2⟩) (by omega)
  refine ⟨x7', ?_⟩
  have e2 : asL (vr 3) [some (encS' S), some (.int now), some B, some (.list (fnd.map encR)), some (.int (a : Int)), x5, x6, x7] = some (.list (fnd.map encR)) := asL_e _ _ (by simp)
  have e3 : rng2 (aCons (vr 6) (aCons (bA lenD (aCons (b2 ixD (vr 0) (cD (.int 0))) aNil)) aNil)) [some (encS' S), some (.int now), some B, some (.list (fnd.map encR)), some (.int ((a + 1 : Nat) : Int)), some (encR p), some (.int (frst p)), x7] = some ((rng (frst p) S.n).map .int) := by
    refine rng2_e ?_ ?_
    · unfold Sky.n at h1 ⊢
      omega
    · simp [getL, Sky.n]
  have ek : fnd ++ S.kids now p = fnd ++ ((rng (frst p) S.n).filter (S.can now p)).map fun j => p ++ [j] := rfl
  rw [ek]
  have h2 : (sq (stIf (truL (vr 5)) (stSet 6 (b2 addI (b2 ixD (vr 5) (b1 negI (cD (.int 1)))) (cD (.int 1)))) stNx) (stFor (rng2 (aCons (vr 6) (aCons (bA lenD (aCons (b2 ixD (vr 0) (cD (.int 0))) aNil)) aNil))) (setD 7) lp_plans_on_1)) [some (encS' S), some (.int now), some B, some (.list (fnd.map encR)), some (.int ((a + 1 : Nat) : Int)), some (encR p), some (.int 0), x7] = forL (setD 7) lp_plans_on_1 ((rng (frst p) S.n).map .int) [some (encS' S), some (.int now), some B, some (.list (fnd.map encR)), some (.int ((a + 1 : Nat) : Int)), some (encR p), some (.int (frst p)), x7] := by
    rw [sq_e, stIf_e]
    cases hq : p.getLast? with
    | none =>
      have hp : p = [] := List.getLast?_eq_none_iff.mp hq
      have e5 : frst p = 0 := by simp [frst, hq]
      rw [e5] at e3 ⊢
      have e7 : truL (vr 5) [some (encS' S), some (.int now), some B, some (.list (fnd.map encR)), some (.int ((a + 1 : Nat) : Int)), some (encR p), some (.int 0), x7] = some false := by
        subst hp; rfl
      rw [e7, Option.bind_some, if_neg (by decide), stNx_e, Option.bind_some]
      show stFor _ _ _ _ = _
      rw [stFor_e, e3, Option.bind_some]
    | some l =>
      have e4 := ix_last hq
      have e5 : frst p = l + 1 := by simp [frst, hq]
      have e6 : p ≠ [] := by rintro rfl; cases hq
      rw [e5] at e3 ⊢
      have e7 : truL (vr 5) [some (encS' S), some (.int now), some B, some (.list (fnd.map encR)), some (.int ((a + 1 : Nat) : Int)), some (encR p), some (.int 0), x7] = some true := by
        cases p with
        | nil => exact absurd rfl e6
        | cons x r => rfl
      have e8 : stSet 6 (b2 addI (b2 ixD (vr 5) (b1 negI (cD (.int 1)))) (cD (.int 1))) [some (encS' S), some (.int now), some B, some (.list (fnd.map encR)), some (.int ((a + 1 : Nat) : Int)), some (encR p), some (.int 0), x7] = some (.nx [some (encS' S), some (.int now), some B, some (.list (fnd.map encR)), some (.int ((a + 1 : Nat) : Int)), some (encR p), some (.int (l + 1)), x7]) := by
        simp [e4]
      rw [e7, Option.bind_some, if_pos rfl, e8, Option.bind_some]
      show stFor _ _ _ _ = _
      rw [stFor_e, e3, Option.bind_some]
  unfold lp_plans_on_2
  rw [sq_e]
  have h3 : stPar 5 6 (aCons (b2 ixD (asL (vr 3)) (vr 4)) (aCons (cD (.int 0)) aNil)) [some (encS' S), some (.int now), some B, some (.list (fnd.map encR)), some (.int (a : Int)), x5, x6, x7] = some (.nx [some (encS' S), some (.int now), some B, some (.list (fnd.map encR)), some (.int (a : Int)), some (encR p), some (.int 0), x7]) := by
    simp [e2, e1]
  have h4 : stAug 4 (fun i j => i + j) (cD (.int 1)) [some (encS' S), some (.int now), some B, some (.list (fnd.map encR)), some (.int (a : Int)), some (encR p), some (.int 0), x7] = some (.nx [some (encS' S), some (.int now), some B, some (.list (fnd.map encR)), some (.int ((a + 1 : Nat) : Int)), some (encR p), some (.int 0), x7]) := by
    simp
  rw [h3, Option.bind_some]
  show sq _ _ _ = _
  rw [sq_e, h4, Option.bind_some]
  exact h2.trans t
/-- the outer loop -/
theorem plans_loop {S : Sky} (v : Valid S) {now : Int} {B : PyData} {begun : List Int} (gb : Good S begun) : ∀ (m : Nat) (fnd : List (List Int)) (a : Nat) (x5 x6 x7 : Option PyData), ((fnd.drop a).map S.wgt).sum < m → a ≤ fnd.length → a + ((fnd.drop a).map S.wgt).sum ≤ 65536 →
    (∀ p ∈ fnd, Reach S now begun p) → begun ∈ fnd → (∀ p ∈ fnd.take a, ∀ q ∈ S.kids now p, q ∈ fnd) →
    ∃ (L : List (List Int)) (z4 z5 z6 z7 : Option PyData), whN (tB (b2 ltI (vr 4) (bA lenD (aCons (vr 3) aNil)))) lp_plans_on_2 m [some (encS' S), some (.int now), some B, some (.list (fnd.map encR)), some (.int a), x5, x6, x7] = some (.nx [some (encS' S), some (.int now), some B, some (.list (L.map encR)), z4, z5, z6, z7]) ∧ (∀ p, p ∈ L ↔ Reach S now begun p) ∧ L.length ≤ 65536 := by
  intro m
  induction m with
  | zero => intro fnd a x5 x6 x7 h; exact absurd h (Nat.not_lt_zero _)
  | succ m ih =>
    intro fnd a x5 x6 x7 hm ha hb hr hbg hk
    have hlw := len_wgt S (fnd.drop a)
    rw [List.length_drop] at hlw
    unfold whN
    by_cases c : a < fnd.length
    · have hp : fnd[a]? = some fnd[a] := List.getElem?_eq_getElem c
      have gp : Good S fnd[a] := (hr _ (List.getElem_mem c)).good gb
      obtain ⟨x7', t⟩ := nxt_kid v (now := now) (B := B) gp hp x5 x6 x7 (by omega)
      have hd : fnd.drop a = fnd[a] :: fnd.drop (a + 1) := List.drop_eq_getElem_cons c
      have hd2 : (fnd ++ S.kids now fnd[a]).drop (a + 1) = fnd.drop (a + 1) ++ S.kids now fnd[a] := List.drop_append_of_le_length (by omega)
      have hw := S.kids_wgt now gp
      rw [hd, List.map_cons, List.sum_cons] at hm hb
      obtain ⟨L, y4, y5, y6, y7, h1, h2, h3⟩ := ih (fnd ++ S.kids now fnd[a]) (a + 1) (some (encR fnd[a])) (some (.int (frst fnd[a]))) x7' (by
          rw [hd2, List.map_append, List.sum_append]; omega) (by rw [List.length_append]; omega) (by
          rw [hd2, List.map_append, List.sum_append]; omega) (fun p hp => by
          rcases List.mem_append.mp hp with z | z
          · exact hr p z
          · exact .step (hr _ (List.getElem_mem c)) z) (List.mem_append.mpr (.inl hbg)) (fun p hp q hq => by
          rw [List.take_append_of_le_length (by omega), List.take_succ_eq_append_getElem c] at hp
          rcases List.mem_append.mp hp with z | z
          · exact List.mem_append.mpr (.inl (hk p z q hq))
          · rw [List.mem_singleton.mp z] at hq
            exact List.mem_append.mpr (.inr hq))
      refine ⟨L, y4, y5, y6, y7, ?_, h2, h3⟩
      have e : tB (b2 ltI (vr 4) (bA lenD (aCons (vr 3) aNil))) [some (encS' S), some (.int now), some B, some (.list (fnd.map encR)), some (.int (a : Int)), x5, x6, x7] = some true := by
        simp [c]
      rw [e, Option.bind_some, if_pos rfl, t, Option.bind_some]
      exact h1
    · have e : tB (b2 ltI (vr 4) (bA lenD (aCons (vr 3) aNil))) [some (encS' S), some (.int now), some B, some (.list (fnd.map encR)), some (.int (a : Int)), x5, x6, x7] = some false := by
        simp
        omega
      have hal : a = fnd.length := by omega
      refine ⟨fnd, some (.int (a : Int)), x5, x6, x7, by rw [e, Option.bind_some, if_neg (by decide)], fun p => ⟨hr p, fun z => ?_⟩, by omega⟩
      rw [hal, List.take_length] at hk
      induction z with
      | base => exact hbg
      | step _ hq ih => exact hk _ ih _ hq
theorem rowsOf_map : ∀ l : List (List Int), rowsOf (l.map encR) = some l
  | [] => rfl
  | r :: l => by
    show (intsOf (r.map .int)).bind (fun a => (rowsOf (l.map encR)).map (a :: ·)) = _
    rw [intsOf_map, Option.bind_some, rowsOf_map l]
    rfl
theorem srtR_e (l : List (List Int)) : srtR [.list (l.map encR)] = some (.list ((l.mergeSort fun a b => decide (a ≤ b)).map encR)) := by
  unfold srtR
  dsimp only
  rw [rowsOf_map]
  rfl
theorem sort_le (l : List (List Int)) : (l.mergeSort fun a b => decide (a ≤ b)).Pairwise (· ≤ ·) := by
  refine (List.pairwise_mergeSort (le := fun a b => decide (a ≤ b)) (fun a b c h1 h2 => ?_) (fun a b => ?_) l).imp fun h => of_decide_eq_true h
  · exact decide_eq_true (List.le_trans (of_decide_eq_true h1) (of_decide_eq_true h2))
  · rcases List.le_total a b with z | z
    · simp [z]
    · simp [z]
theorem plans_on_r {S : Sky} (v : Valid S) (now : Int) {begun : List Int} (gb : Good S begun) : ∃ L : List (List Int), f_plans_on [encS' S, .int now, encR begun] = some (.ok (.list (L.map encR))) ∧ (∀ p, p ∈ L ↔ Reach S now begun p) ∧ L.length ≤ 65536 ∧ L.Pairwise (· ≤ ·) := by
  have hn := v.nl
  have h0 := gb.len
  have h1 := gb.top
  have hw : S.wgt begun ≤ 65536 := by
    unfold Sky.wgt
    have : (S.n - frst begun).toNat ≤ 16 := by unfold Sky.n at h1 ⊢; omega
    exact Nat.pow_le_pow_right (n := 2) (by decide) this
  obtain ⟨L, x4, x5, x6, x7, h2, h3, h4⟩ := plans_loop v (now := now) (B := encR begun) gb 100000 [begun] 0 none none none (by simp; omega) (by simp) (by simp; omega) (by simp; exact .base) (by simp) (by simp)
  refine ⟨L.mergeSort fun a b => decide (a ≤ b), ?_, fun p => by rw [List.mem_mergeSort]; exact h3 p, by rw [List.length_mergeSort]; exact h4, sort_le L⟩
  unfold f_plans_on h_plans_on runP startD
  have e1 : asL (bA (fun l => (szOk l).map .list) (aCons (asL (bA listOf (aCons (vr 2) aNil))) aNil)) [some (encS' S), some (.int now), some (encR begun), none, none, none, none, none] = some (.list [encR begun]) := by
    simp [asL, Dl.listOf]
  have e2 : stParN 3 4 (bA (fun l => (szOk l).map .list) (aCons (asL (bA listOf (aCons (vr 2) aNil))) aNil)) (cD (.int 0)) [some (encS' S), some (.int now), some (encR begun), none, none, none, none, none] = some (.nx [some (encS' S), some (.int now), some (encR begun), some (.list [encR begun]), some (.int 0), none, none, none]) := by
    unfold stParN
    rw [e1]
    simp
  show ((sq _ _ [some (encS' S), some (.int now), some (encR begun), none, none, none, none, none]).bind outRs) = _
  rw [sq_e, e2, Option.bind_some]
  show (sq _ _ _).bind outRs = _
  rw [sq_e]
  have e3 : stWhile 100000 (tB (b2 ltI (vr 4) (bA lenD (aCons (vr 3) aNil)))) lp_plans_on_2 [some (encS' S), some (.int now), some (encR begun), some (.list [encR begun]), some (.int 0), none, none, none] = _ := h2
  rw [e3, Option.bind_some]
  show (stRet _ _).bind outRs = _
  rw [stRet_e, bA_e]
  have e4 : aCons (vr 3) aNil [some (encS' S), some (.int now), some (encR begun), some (.list (L.map encR)), x4, x5, x6, x7] = some [.list (L.map encR)] := rfl
  rw [e4, Option.bind_some, srtR_e]
  rfl
end Sk
set_option Elab.async false
set_option linter.all false
set_option maxRecDepth 100000
set_option maxHeartbeats 4000000
/-! Plans in plain words. -/
namespace Sk
open PySem L2 Dl
def Sky.amt (S : Sky) (p : List Int) : Int := match S.run p with
  | some c => c.amt
  | none => 0
theorem run_snoc (S : Sky) (p : List Int) (j : Int) : S.run (p ++ [j]) = (S.run p).bind fun c => S.nxt c j := by
  unfold Sky.run
  rw [List.foldlM_append]
  show (List.foldlM S.nxt ⟨none, 0, []⟩ p).bind (fun c => List.foldlM S.nxt c [j]) = _
  cases List.foldlM S.nxt ⟨none, 0, []⟩ p with
  | none => rfl
  | some c =>
    rw [Option.bind_some, Option.bind_some, List.foldlM_cons]
    cases S.nxt c j <;> rfl
theorem snoc_ind {α : Type} {P : List α → Prop} (h0 : P []) (h1 : ∀ p j, P p → P (p ++ [j])) (p : List α) : P p := by
  have : ∀ q : List α, P q.reverse := by
    intro q
    induction q with
    | nil => exact h0
    | cons x q ih => rw [List.reverse_cons]; exact h1 _ _ ih
  have z := this p.reverse
  rwa [List.reverse_reverse] at z
theorem nxt_some {S : Sky} {c c' : Acc} {j : Int} (e : S.nxt c j = some c') : (∀ l, c.last = some l → l < j) ∧ S.wish j ∉ c.seen ∧ (∀ l, c.last = some l → S.follows l j = true) ∧ S.behind c.last c.amt j = some c'.amt ∧ c'.last = some j ∧ c'.seen = c.seen ++ [S.wish j] := by
  unfold Sky.nxt at e
  split at e
  · cases e
  · rename_i h1
    split at e
    · cases e
    · rename_i h2
      split at e
      · cases e
      · rename_i h3
        obtain ⟨a, h4, rfl⟩ := Option.map_eq_some_iff.mp e
        refine ⟨fun l hl => ?_, h2, fun l hl => ?_, h4, rfl, rfl⟩
        · have : ¬ j ≤ l := fun z => h1 ⟨l, hl, z⟩
          omega
        · cases hf : S.follows l j with
          | true => rfl
          | false => exact absurd ⟨l, hl, hf⟩ h3
theorem nxt_of {S : Sky} {c : Acc} {j a : Int} (h1 : ∀ l, c.last = some l → l < j) (h2 : S.wish j ∉ c.seen) (h3 : ∀ l, c.last = some l → S.follows l j = true) (h4 : S.behind c.last c.amt j = some a) : S.nxt c j = some ⟨some j, a, c.seen ++ [S.wish j]⟩ := by
  unfold Sky.wish at h2 ⊢
  unfold Sky.nxt
  rw [if_neg (by rintro ⟨l, hl, z⟩; have := h1 l hl; omega), if_neg h2, if_neg (by rintro ⟨l, hl, z⟩; rw [h3 l hl] at z; cases z), h4]
  rfl
theorem run_acc {S : Sky} : ∀ {p : List Int} {c : Acc}, S.run p = some c → c.last = p.getLast? ∧ c.seen = p.map S.wish := by
  intro p
  refine snoc_ind (P := fun p => ∀ {c : Acc}, S.run p = some c → c.last = p.getLast? ∧ c.seen = p.map S.wish) ?_ ?_ p
  · intro c h
    cases h
    exact ⟨rfl, rfl⟩
  · intro p j ih c h
    rw [run_snoc] at h
    obtain ⟨c0, h1, h2⟩ := Option.bind_eq_some_iff.mp h
    obtain ⟨e1, e2⟩ := ih h1
    obtain ⟨_, _, _, _, h3, h4⟩ := nxt_some h2
    rw [h3, h4, e2]
    simp
theorem isPlan_iff {S : Sky} {p : List Int} : S.isPlan p = true ↔ ∃ c, S.run p = some c := by
  unfold Sky.isPlan
  rw [Option.isSome_iff_exists]
theorem isPlan_snoc {S : Sky} {p : List Int} {j : Int} : S.isPlan (p ++ [j]) = true ↔ S.isPlan p = true ∧ (∀ l, p.getLast? = some l → l < j) ∧ S.wish j ∉ p.map S.wish ∧ (∀ l, p.getLast? = some l → S.follows l j = true) ∧ (S.behind p.getLast? (S.amt p) j).isSome = true := by
  rw [isPlan_iff, isPlan_iff]
  constructor
  · rintro ⟨c, h⟩
    rw [run_snoc] at h
    obtain ⟨c0, h1, h2⟩ := Option.bind_eq_some_iff.mp h
    obtain ⟨e1, e2⟩ := run_acc h1
    obtain ⟨a1, a2, a3, a4, _, _⟩ := nxt_some h2
    rw [e1] at a1 a3 a4
    rw [e2] at a2
    refine ⟨⟨c0, h1⟩, a1, a2, a3, ?_⟩
    have : S.amt p = c0.amt := by unfold Sky.amt; rw [h1]
    rw [this, a4]; rfl
  · rintro ⟨⟨c0, h1⟩, a1, a2, a3, a4⟩
    obtain ⟨e1, e2⟩ := run_acc h1
    have : S.amt p = c0.amt := by unfold Sky.amt; rw [h1]
    rw [this, ← e1] at a4
    rw [← e1] at a1 a3
    rw [← e2] at a2
    obtain ⟨a, ha⟩ := Option.isSome_iff_exists.mp a4
    exact ⟨_, by rw [run_snoc, h1, Option.bind_some, nxt_of a1 a2 a3 ha]⟩
theorem amt_snoc {S : Sky} {p : List Int} {j : Int} (h : S.isPlan (p ++ [j]) = true) : S.behind p.getLast? (S.amt p) j = some (S.amt (p ++ [j])) := by
  obtain ⟨c, h⟩ := isPlan_iff.mp h
  have e3 : S.amt (p ++ [j]) = c.amt := by unfold Sky.amt; rw [h]
  rw [run_snoc] at h
  obtain ⟨c0, h1, h2⟩ := Option.bind_eq_some_iff.mp h
  obtain ⟨e1, e2⟩ := run_acc h1
  obtain ⟨_, _, _, a4, _, _⟩ := nxt_some h2
  have : S.amt p = c0.amt := by unfold Sky.amt; rw [h1]
  rw [this, ← e1, a4, e3]
theorem amt_nil (S : Sky) : S.amt [] = 0 := rfl
theorem isPlan_nil (S : Sky) : S.isPlan [] = true := rfl
theorem isPlan_pre {S : Sky} {p : List Int} : ∀ {q : List Int}, S.isPlan (p ++ q) = true → S.isPlan p = true := by
  intro q
  refine snoc_ind (P := fun q => S.isPlan (p ++ q) = true → S.isPlan p = true) ?_ ?_ q
  · intro h; rwa [List.append_nil] at h
  · intro q j ih h
    rw [← List.append_assoc] at h
    exact ih (isPlan_snoc.mp h).1
theorem lt_last {p : List Int} : ∀ {j : Int}, (p ++ [j]).Pairwise (· < ·) → ∀ {k : Int}, j < k → (p ++ [j] ++ [k]).Pairwise (· < ·) := by
  intro j h k hk
  rw [List.pairwise_append]
  refine ⟨h, List.pairwise_singleton _ _, fun a ha b hb => ?_⟩
  rw [List.mem_singleton.mp hb]
  rcases List.mem_append.mp ha with z | z
  · have := (List.pairwise_append.mp h).2.2 a z j (by simp)
    omega
  · rw [List.mem_singleton.mp z]; exact hk
theorem isPlan_lt {S : Sky} (p : List Int) : S.isPlan p = true → p.Pairwise (· < ·) := by
  refine snoc_ind (P := fun p => S.isPlan p = true → p.Pairwise (· < ·)) ?_ ?_ p
  · intro _; exact List.Pairwise.nil
  · intro p j ih h
    obtain ⟨h1, h2, _⟩ := isPlan_snoc.mp h
    have i := ih h1
    rcases List.eq_nil_or_concat p with rfl | ⟨q, l, rfl⟩
    · simp
    · rw [List.concat_eq_append] at *
      exact lt_last i (h2 l (by simp))
theorem Good.of {S : Sky} (p : List Int) : S.isPlan p = true → (∀ i ∈ p, S.has i) → Good S p := by
  refine snoc_ind (P := fun p => S.isPlan p = true → (∀ i ∈ p, S.has i) → Good S p) ?_ ?_ p
  · intro _ _
    refine ⟨(fun i hi => by cases hi), by simp [frst], ?_⟩
    show (0 : Int) ≤ S.n
    unfold Sky.n
    omega
  · intro p j ih h hh
    obtain ⟨h1, h2, _⟩ := isPlan_snoc.mp h
    have g := ih h1 fun i hi => hh i (List.mem_append.mpr (.inl hi))
    have hj := hh j (by simp)
    have hf : frst p ≤ j := by
      unfold frst
      cases e : p.getLast? with
      | none => exact hj.1
      | some l => have := h2 l e; show l + 1 ≤ j; omega
    refine ⟨hh, ?_, ?_⟩
    · rw [frst_snoc, List.length_append]
      have := g.len
      simp
      omega
    · rw [frst_snoc]
      have := hj.2
      unfold Sky.n
      omega
/-- the plans that begin so -/
def Ext (S : Sky) (now : Int) (begun p : List Int) : Prop := ∃ q, p = begun ++ q ∧ S.isPlan p = true ∧ ∀ i ∈ q, S.has i ∧ now ≤ (S.at i).s
theorem Ext.base {S : Sky} {now : Int} {begun : List Int} (h : S.isPlan begun = true) : Ext S now begun begun := ⟨[], by simp, h, fun i hi => by cases hi⟩
theorem reach_iff {S : Sky} {now : Int} {begun : List Int} (h : S.isPlan begun = true) (hh : ∀ i ∈ begun, S.has i) (p : List Int) : Reach S now begun p ↔ Ext S now begun p := by
  constructor
  · intro r
    induction r with
    | base => exact Ext.base h
    | step _ hq ih =>
      obtain ⟨q, e, h1, h2⟩ := ih
      obtain ⟨j, hj, rfl⟩ := List.mem_map.mp hq
      obtain ⟨z1, z2⟩ := List.mem_filter.mp hj
      obtain ⟨z3, z4⟩ := mem_rng.mp z1
      obtain ⟨z5, z6⟩ := Bool.and_eq_true_iff.mp z2
      have g := Good.of _ h1 (by
        rw [e]
        intro i hi
        rcases List.mem_append.mp hi with z | z
        · exact hh i z
        · exact (h2 i z).1)
      have := g.len
      refine ⟨q ++ [j], by rw [e, List.append_assoc], z6, fun i hi => ?_⟩
      rcases List.mem_append.mp hi with z | z
      · exact h2 i z
      · rw [List.mem_singleton.mp z]
        exact ⟨⟨by omega, z4⟩, of_decide_eq_true z5⟩
  · rintro ⟨q, rfl, h1, h2⟩
    revert h1 h2
    refine snoc_ind (P := fun q => S.isPlan (begun ++ q) = true → (∀ i ∈ q, S.has i ∧ now ≤ (S.at i).s) → Reach S now begun (begun ++ q)) ?_ ?_ q
    · intro _ _
      rw [List.append_nil]
      exact .base
    · intro q j ih h1 h2
      rw [← List.append_assoc] at h1 ⊢
      have h3 := (isPlan_snoc.mp h1)
      refine .step (ih h3.1 fun i hi => h2 i (List.mem_append.mpr (.inl hi))) ?_
      have hj := h2 j (by simp)
      refine List.mem_map.mpr ⟨j, List.mem_filter.mpr ⟨mem_rng.mpr ⟨?_, hj.1.2⟩, ?_⟩, rfl⟩
      · unfold frst
        cases e : (begun ++ q).getLast? with
        | none => exact hj.1.1
        | some l => have := h3.2.1 l e; show l + 1 ≤ j; omega
      · unfold Sky.can
        rw [h1, decide_eq_true hj.2]; rfl
theorem Ext.good {S : Sky} {now : Int} {begun p : List Int} (hh : ∀ i ∈ begun, S.has i) (h : Ext S now begun p) : Good S p := by
  obtain ⟨q, rfl, h1, h2⟩ := h
  refine Good.of _ h1 fun i hi => ?_
  rcases List.mem_append.mp hi with z | z
  · exact hh i z
  · exact (h2 i z).1
theorem Good.short {S : Sky} (v : Valid S) {p : List Int} (g : Good S p) : p.length ≤ 16 := by
  have h1 := g.len
  have h2 := g.top
  have h3 := v.nl
  unfold Sky.n at h2
  omega
structure Begun (S : Sky) (begun : List Int) : Prop where
  pl : S.isPlan begun = true
  has : ∀ i ∈ begun, S.has i
theorem plans_on_e {S : Sky} (v : Valid S) (now : Int) {begun : List Int} (b : Begun S begun) : ∃ L : List (List Int), f_plans_on [encS' S, .int now, encR begun] = some (.ok (.list (L.map encR))) ∧ (∀ p, p ∈ L ↔ Ext S now begun p) ∧ L.length ≤ 65536 ∧ L.Pairwise (· ≤ ·) := by
  obtain ⟨L, h1, h2, h3, h4⟩ := plans_on_r v now (Good.of _ b.pl b.has)
  exact ⟨L, h1, fun p => (h2 p).trans (reach_iff b.pl b.has p), h3, h4⟩
/-! ### keeping -/
theorem keeping_e {S : Sky} (v : Valid S) (now : Int) {begun prom : List Int} (b : Begun S begun) (hm : prom.length ≤ 1000) : ∃ L : List (List Int), f_keeping [encS' S, encR prom, .int now, encR begun] = some (.ok (.list (L.map encR))) ∧ (∀ p, p ∈ L ↔ Ext S now begun p ∧ S.keeps p prom = true) ∧ L.length ≤ 65536 ∧ L.Pairwise (· ≤ ·) := by
  obtain ⟨L, h1, h2, h3, h4⟩ := plans_on_e v now b
  refine ⟨L.filter fun p => S.keeps p prom, ?_, fun p => by rw [List.mem_filter, h2], Nat.le_trans (List.length_filter_le _ _) h3, h4.filter _⟩
  have e1 := gN_e (n := 3) h1 rfl
  unfold f_keeping h_keeping runP startD
  have e2 : cp_keeping_1 [some (encS' S), some (encR prom), some (.int now), some (encR begun), none] = some (.list ((L.filter fun p => S.keeps p prom).map encR)) := by
    unfold cp_keeping_1
    refine lcD_e (ds := L.map encR) (by simp [e1]) (by simp; omega) ?_
    refine lc_map (f := encR) _ _ L fun p hp => ⟨[some (encS' S), some (encR prom), some (.int now), some (encR begun), some (encR p)], by simp [wipeD], ?_, fun _ => by simp⟩
    have g := ((h2 p).mp hp).good b.has
    have e3 := gN_e (n := 3) (keeps_e g.has (by have := g.short v; omega) hm) rfl
    simp [e3]
  simp only [List.map_cons, List.map_nil, List.length_cons, List.length_nil, List.replicate, List.cons_append, List.nil_append, stRet_e]
  rw [asL_e _ _ e2]
  rfl
theorem can_keep_e {S : Sky} (v : Valid S) (now : Int) {begun prom : List Int} (b : Begun S begun) (hm : prom.length ≤ 1000) : ∃ c : Bool, f_can_keep [encS' S, encR prom, .int now, encR begun] = some (.ok (.bool c)) ∧ (c = true ↔ ∃ p, Ext S now begun p ∧ S.keeps p prom = true) := by
  obtain ⟨L, h1, h2, h3, h4⟩ := keeping_e v now b hm
  refine ⟨decide (0 < L.length), ?_, ?_⟩
  · have e1 := gN_e (n := 4) h1 rfl
    unfold f_can_keep h_can_keep runP startD
    simp [e1]
  · rw [decide_eq_true_iff, List.length_pos_iff_exists_mem]
    simp only [h2]
end Sk
set_option Elab.async false
set_option linter.all false
set_option maxRecDepth 100000
set_option maxHeartbeats 4000000
/-! The best plan; parts of promises; what clashes. -/
namespace Sk
open PySem L2 Dl
structure IsBest (S : Sky) (now : Int) (begun prom p : List Int) : Prop where
  ext : Ext S now begun p
  keeps : S.keeps p prom = true
  top : ∀ q, Ext S now begun q → S.keeps q prom = true → S.worth q ≤ S.worth p ∧ (S.worth q = S.worth p → p ≤ q)
theorem IsBest.uniq {S : Sky} {now : Int} {begun prom p q : List Int} (h1 : IsBest S now begun prom p) (h2 : IsBest S now begun prom q) : p = q := by
  have a := h1.top q h2.ext h2.keeps
  have b := h2.top p h1.ext h1.keeps
  have e : S.worth p = S.worth q := by omega
  exact List.le_antisymm (a.2 e.symm) (b.2 e)
def bstep (f : List Int → Int) (b : Option (Int × List Int)) (p : List Int) : Option (Int × List Int) := match b with
  | none => some (f p, p)
  | some (w, q) => if w < f p then some (f p, p) else some (w, q)
theorem bfold (f : List Int → Int) (L : List (List Int)) : L.Pairwise (· ≤ ·) → (L.foldl (bstep f) none = none ∧ L = []) ∨ ∃ p, L.foldl (bstep f) none = some (f p, p) ∧ p ∈ L ∧ ∀ q ∈ L, f q ≤ f p ∧ (f q = f p → p ≤ q) := by
  refine snoc_ind (P := fun L => L.Pairwise (· ≤ ·) → (L.foldl (bstep f) none = none ∧ L = []) ∨ ∃ p, L.foldl (bstep f) none = some (f p, p) ∧ p ∈ L ∧ ∀ q ∈ L, f q ≤ f p ∧ (f q = f p → p ≤ q)) ?_ ?_ L
  · intro _; exact .inl ⟨rfl, rfl⟩
  · intro L x ih hs
    rw [List.foldl_append]
    obtain ⟨h1, _, h2⟩ := List.pairwise_append.mp hs
    right
    rcases ih h1 with ⟨e, rfl⟩ | ⟨p, e, hp, hq⟩
    · exact ⟨x, rfl, by simp, fun q hq => by
        rw [List.nil_append, List.mem_singleton] at hq
        subst hq
        exact ⟨Int.le_refl _, fun _ => List.le_refl _⟩⟩
    · rw [e]
      show ∃ p1, bstep f (some (f p, p)) x = _ ∧ _
      unfold bstep
      dsimp only
      by_cases c : f p < f x
      · rw [if_pos c]
        refine ⟨x, rfl, by simp, fun q hq' => ?_⟩
        rcases List.mem_append.mp hq' with z | z
        · have := (hq q z).1
          exact ⟨by omega, fun _ => by omega⟩
        · rw [List.mem_singleton.mp z]
          exact ⟨Int.le_refl _, fun _ => List.le_refl _⟩
      · rw [if_neg c]
        refine ⟨p, rfl, by simp [hp], fun q hq' => ?_⟩
        rcases List.mem_append.mp hq' with z | z
        · exact hq q z
        · rw [List.mem_singleton.mp z]
          exact ⟨by omega, fun _ => h2 p hp x (by simp)⟩
def encB : Option (Int × List Int) → PyData
  | none => .none
  | some (w, p) => .tuple [.int w, encR p]
theorem best_keeping_r {S : Sky} (v : Valid S) (now : Int) {begun prom : List Int} (b : Begun S begun) (hm : prom.length ≤ 1000) : (f_best_keeping [encS' S, encR prom, .int now, encR begun] = some (.ok .none) ∧ ∀ p, Ext S now begun p → S.keeps p prom = true → False) ∨ ∃ p, f_best_keeping [encS' S, encR prom, .int now, encR begun] = some (.ok (.tuple [.int (S.worth p), encR p])) ∧ IsBest S now begun prom p := by
  obtain ⟨L, h1, h2, h3, h4⟩ := keeping_e v now b hm
  have e1 := gN_e (n := 4) h1 rfl
  obtain ⟨δ', t, x5, x6, ht⟩ := forL_fold (r := fun p d => d = encR p) (g := setD 5) (fb := lp_best_keeping_1)
    (fun (c : Option (Int × List Int)) δ => ∃ x5 x6, δ = [some (encS' S), some (encR prom), some (.int now), some (encR begun), some (encB c), x5, x6]) (bstep S.worth) (Al.map L) none [some (encS' S), some (encR prom), some (.int now), some (encR begun), some .none, none, none] ⟨_, _, rfl⟩ (by
      rintro c p d δ hp rfl ⟨x5, x6, rfl⟩
      have g := ((h2 p).mp hp).1.good b.has
      have e3 := gN_e (n := 2) (worth_of_e v g.has (by have := g.short v; omega)) rfl
      refine ⟨[some (encS' S), some (encR prom), some (.int now), some (encR begun), some (encB c), some (encR p), x6], .nx [some (encS' S), some (encR prom), some (.int now), some (encR begun), some (encB (bstep S.worth c p)), some (encR p), some (.int (S.worth p))], by simp, ?_, .inl ⟨_, rfl, _, _, rfl⟩⟩
      unfold lp_best_keeping_1
      cases c with
      | none => simp [e3, encB, bstep]
      | some c =>
        obtain ⟨w, q⟩ := c
        by_cases z : w < S.worth p
        · simp [e3, encB, bstep, z]
        · simp [e3, encB, bstep, z])
  subst ht
  have key : f_best_keeping [encS' S, encR prom, .int now, encR begun] = some (.ok (encB (L.foldl (bstep S.worth) none))) := by
    unfold f_best_keeping h_best_keeping runP startD
    simp [e1, t]
  rw [key]
  rcases bfold S.worth L h4 with ⟨e, rfl⟩ | ⟨p, e, hp, hq⟩
  · left
    refine ⟨by rw [e]; rfl, fun p z1 z2 => ?_⟩
    have := (h2 p).mpr ⟨z1, z2⟩
    cases this
  · right
    refine ⟨p, by rw [e]; rfl, ((h2 p).mp hp).1, ((h2 p).mp hp).2, fun q z1 z2 => hq q ((h2 q).mpr ⟨z1, z2⟩)⟩
/-! ### parts -/
def partsOf (prom : List Int) : List (List Int) := prom.foldl (fun F w => F ++ F.map (· ++ [w])) [[]]
theorem partsOf_snoc (p : List Int) (w : Int) : partsOf (p ++ [w]) = partsOf p ++ (partsOf p).map (· ++ [w]) := by
  unfold partsOf
  rw [List.foldl_append]
  rfl
theorem partsOf_len (p : List Int) : (partsOf p).length = 2 ^ p.length := by
  refine snoc_ind (P := fun p => (partsOf p).length = 2 ^ p.length) rfl ?_ p
  intro p j ih
  rw [partsOf_snoc, List.length_append, List.length_map, ih, List.length_append, List.length_singleton, Nat.pow_succ]
  omega
theorem partsOf_self (p : List Int) : p ∈ partsOf p := by
  refine snoc_ind (P := fun p => p ∈ partsOf p) (by simp [partsOf]) ?_ p
  intro p j ih
  rw [partsOf_snoc]
  exact List.mem_append.mpr (.inr (List.mem_map.mpr ⟨p, ih, rfl⟩))
theorem partsOf_short (p : List Int) : ∀ q ∈ partsOf p, q.length ≤ p.length := by
  refine snoc_ind (P := fun p => ∀ q ∈ partsOf p, q.length ≤ p.length) (by simp [partsOf]) ?_ p
  intro p j ih q hq
  rw [partsOf_snoc] at hq
  rw [List.length_append, List.length_singleton]
  rcases List.mem_append.mp hq with z | z
  · have := ih q z
    omega
  · obtain ⟨r, hr, rfl⟩ := List.mem_map.mp z
    have := ih r hr
    simp
    omega
theorem partsOf_sub (p : List Int) : ∀ q ∈ partsOf p, ∀ u ∈ q, u ∈ p := by
  refine snoc_ind (P := fun p => ∀ q ∈ partsOf p, ∀ u ∈ q, u ∈ p) (by simp [partsOf]) ?_ p
  intro p j ih q hq u hu
  rw [partsOf_snoc] at hq
  rcases List.mem_append.mp hq with z | z
  · exact List.mem_append.mpr (.inl (ih q z u hu))
  · obtain ⟨r, hr, rfl⟩ := List.mem_map.mp z
    rcases List.mem_append.mp hu with y | y
    · exact List.mem_append.mpr (.inl (ih r hr u y))
    · exact List.mem_append.mpr (.inr y)
theorem rowsS_map : ∀ l : List SL, rowsS (l.map encS) = some l
  | [] => rfl
  | r :: l => by
    show (intsOf (r.1.map .int)).bind (fun a => if h : a.length ≤ 1000 then (rowsS (l.map encS)).map (⟨a, h⟩ :: ·) else none) = _
    rw [intsOf_map, Option.bind_some, dif_pos r.2, rowsS_map l]
    rfl
theorem srtS_e (l : List (List Int)) (h : ∀ r ∈ l, r.length ≤ 1000) : ∃ L : List (List Int), srtK encS keyP rowsS (.list (l.map encR)) = some (.list (L.map encR)) ∧ ∀ r, r ∈ L ↔ r ∈ l := by
  obtain ⟨m, hm⟩ : ∃ m : List SL, m.map (·.1) = l := by
    induction l with
    | nil => exact ⟨[], rfl⟩
    | cons r l ih =>
      obtain ⟨m, hm⟩ := ih fun r hr => h r (List.mem_cons_of_mem _ hr)
      exact ⟨⟨r, h r List.mem_cons_self⟩ :: m, by rw [List.map_cons, hm]⟩
  have e : l.map encR = m.map encS := by rw [← hm, List.map_map]; rfl
  rw [e]
  refine ⟨(m.mergeSort (PySem.W.dataLe false keyP)).map (·.1), ?_, fun r => ?_⟩
  · unfold srtK
    dsimp only
    rw [rowsS_map, List.map_map]
    rfl
  · rw [← hm]
    simp only [List.mem_map, List.mem_mergeSort]
theorem parts_of_e {prom : List Int} (hm : prom.length ≤ 8) : ∃ L : List (List Int), f_parts_of [encR prom] = some (.ok (.list (L.map encR))) ∧ prom ∈ L ∧ (∀ r ∈ L, r.length ≤ prom.length) ∧ ∀ r ∈ L, ∀ u ∈ r, u ∈ prom := by
  have key : ∀ (q p : List Int) (x2 : Option PyData), p.length + q.length ≤ 8 → ∃ x2', forL (setD 2) lp_parts_of_1 (q.map .int) [some (encR prom), some (.list ((partsOf p).map encR)), x2, none] = some (.nx [some (encR prom), some (.list ((partsOf (p ++ q)).map encR)), x2', none]) := by
    intro q
    induction q with
    | nil => intro p x2 _; exact ⟨x2, by rw [List.append_nil]; rfl⟩
    | cons w q ih =>
      intro p x2 hl
      rw [List.length_cons] at hl
      have hp2 : (partsOf p).length ≤ 256 := by
        rw [partsOf_len]
        exact Nat.pow_le_pow_right (n := 2) (by decide) (by omega : p.length ≤ 8)
      obtain ⟨F, hF⟩ : ∃ F, F = partsOf p := ⟨_, rfl⟩
      have sh := partsOf_short p
      obtain ⟨x2', t⟩ := ih (p ++ [w]) (some (.int w)) (by simp; omega)
      rw [partsOf_snoc, List.append_assoc, List.singleton_append, ← hF] at t
      rw [← hF] at hp2 sh ⊢
      refine ⟨x2', ?_⟩
      rw [List.map_cons]
      unfold forL
      rw [setD_e, Option.bind_some]
      have e1 : cp_parts_of_1 [some (encR prom), some (.list (F.map encR)), some (.int w), none] = some (.list ((F.map (· ++ [w])).map encR)) := by
        unfold cp_parts_of_1
        rw [List.map_map]
        refine lcD_e (ds := F.map encR) (by simp) (by simp; omega) ?_
        refine lc_all (f := encR) _ F fun r hr => ⟨[some (encR prom), some (.list (F.map encR)), some (.int w), some (encR r)], by simp [wipeD], ?_⟩
        have h1 := sh r hr
        have e2 : asL (bA (fun l => (szOk l).map .list) (aCons (vr 2) aNil)) [some (encR prom), some (.list (F.map encR)), some (.int w), some (encR r)] = some (.list [.int w]) := asL_e _ _ (by simp)
        rw [b2_e, e2, vr_e]
        show catL (encR r) (.list [.int w]) = _
        rw [catL_e (by simp; omega)]
        simp
      have e3 : lp_parts_of_1 ([some (encR prom), some (.list (F.map encR)), x2, none].set 2 (some (.int w))) = some (.nx [some (encR prom), some (.list ((F ++ F.map (· ++ [w])).map encR)), some (.int w), none]) := by
        unfold lp_parts_of_1
        simp only [List.set_cons_succ, List.set_cons_zero, stSet_e, b2_e, asL_e _ _ e1]
        rw [vr_e]
        show (catL (.list (F.map encR)) (.list ((F.map (· ++ [w])).map encR))).map _ = _
        rw [catL_e (by simp; omega), ← List.map_append]
        rfl
      rw [e3, Option.bind_some]
      exact t
  obtain ⟨x2, t⟩ := key prom [] none (by simpa using hm)
  rw [List.nil_append] at t
  obtain ⟨L, h1, h2⟩ := srtS_e (partsOf prom) fun r hr => by have := partsOf_short prom r hr; omega
  refine ⟨L, ?_, (h2 _).mpr (partsOf_self _), fun r hr => partsOf_short prom r ((h2 r).mp hr), fun r hr => partsOf_sub prom r ((h2 r).mp hr)⟩
  have e0 : asL (bA (fun l => (szOk l).map .list) (aCons (asL (bA (fun l => (szOk l).map .list) aNil)) aNil)) [some (encR prom), none, none, none] = some (.list [.list []]) := by
    refine asL_e _ _ ?_
    simp [asL]
  unfold f_parts_of h_parts_of runP startD
  show (sq _ _ [some (encR prom), none, none, none]).bind outRs = _
  rw [sq_e, stSet_e, e0]
  show (sq _ _ [some (encR prom), some (.list ((partsOf []).map encR)), none, none]).bind outRs = _
  rw [sq_e, stFor_e]
  have e5 : listI (vr 0) [some (encR prom), some (.list ((partsOf []).map encR)), none, none] = some (prom.map .int) := rfl
  rw [e5, Option.bind_some, t, Option.bind_some]
  show (stRet _ _).bind outRs = _
  rw [stRet_e, b1_e]
  show (((srtK encS keyP rowsS (.list ((partsOf prom).map encR)))).map _).bind outRs = _
  rw [h1]
  rfl
/-! ### what clashes -/
theorem clash_of_e {S : Sky} (v : Valid S) (now w : Int) {begun prom : List Int} (b : Begun S begun) (hm : prom.length ≤ 8) : ∃ d, f_clash_of [encS' S, encR prom, .int w, .int now, encR begun] = some (.ok d) ∧ (isNone d = true → ∃ p, Ext S now begun p ∧ S.keeps p (prom ++ [w]) = true) ∧ (isNone d = false → ∃ r, d = encR r) ∧ ((∃ p, Ext S now begun p ∧ S.keeps p (prom ++ [w]) = true) → isNone d = true) := by
  classical
  obtain ⟨L, h1, h2, h3, h4⟩ := plans_on_e v now b
  obtain ⟨P, p1, p2, p3, p4⟩ := parts_of_e hm
  have e1 := gN_e (n := 3) h1 rfl
  have e2 := gN_e (n := 1) p1 rfl
  obtain ⟨o, t1, t2⟩ := forL_run (r := fun p d => d = encR p) (g := setD 6) (fb := lp_clash_of_1)
    (fun (_ : Unit) δ => ∃ x6, δ = [some (encS' S), some (encR prom), some (.int w), some (.int now), some (encR begun), some (.list (L.map encR)), x6, none]) (fun o => ∃ r δ, o = .rt (encR r) δ) (fun o ⟨r, δ, e⟩ => by rw [e]; trivial) (fun _ r => if (∃ p, Ext S now begun p ∧ S.keeps p (r ++ [w]) = true) then some () else none) (Al.map P) () [some (encS' S), some (encR prom), some (.int w), some (.int now), some (encR begun), some (.list (L.map encR)), none, none] ⟨_, rfl⟩ (by
      rintro _ r d δ hr rfl ⟨x6, rfl⟩
      have hl := p3 r hr
      have cp : cp_clash_of_1 [some (encS' S), some (encR prom), some (.int w), some (.int now), some (encR begun), some (.list (L.map encR)), some (encR r), none] = some (.list ((L.map fun p => S.keeps p (r ++ [w])).map .bool)) := by
        unfold cp_clash_of_1
        rw [List.map_map]
        refine lcD_e (ds := L.map encR) (by simp) (by simp; omega) ?_
        refine lc_all (f := encR) _ L fun p hp => ⟨[some (encS' S), some (encR prom), some (.int w), some (.int now), some (encR begun), some (.list (L.map encR)), some (encR r), some (encR p)], by simp [wipeD], ?_⟩
        have g := ((h2 p).mp hp).good b.has
        have e3 := gN_e (n := 3) (keeps_e (prom := r ++ [w]) g.has (by have := g.short v; omega) (by simp; omega)) rfl
        have e4 : asL (bA (fun l => (szOk l).map .list) (aCons (vr 2) aNil)) [some (encS' S), some (encR prom), some (.int w), some (.int now), some (encR begun), some (.list (L.map encR)), some (encR r), some (encR p)] = some (.list [.int w]) := asL_e _ _ (by simp)
        have e5 : catL (encR r) (.list [.int w]) = some (encR (r ++ [w])) := by
          unfold encR
          rw [catL_e (by simp; omega), List.map_append]
          rfl
        simp only [bA_e, aCons_e, b2_e, e4, aNil_e]
        simp [e5]
        simpa using e3
      refine ⟨[some (encS' S), some (encR prom), some (.int w), some (.int now), some (encR begun), some (.list (L.map encR)), some (encR r), none], ?_⟩
      have e6 : (L.map fun p => S.keeps p (r ++ [w])).any id = decide (∃ p, Ext S now begun p ∧ S.keeps p (r ++ [w]) = true) := by
        rw [Bool.eq_iff_iff, decide_eq_true_iff, List.any_eq_true]
        constructor
        · rintro ⟨x, hx, z⟩
          obtain ⟨p, hp, rfl⟩ := List.mem_map.mp hx
          exact ⟨p, (h2 p).mp hp, z⟩
        · rintro ⟨p, z1, z2⟩
          exact ⟨true, List.mem_map.mpr ⟨p, (h2 p).mpr z1, z2⟩, rfl⟩
      have e7 : tNotD (tB (bA anyD (aCons (asL cp_clash_of_1) aNil))) [some (encS' S), some (encR prom), some (.int w), some (.int now), some (encR begun), some (.list (L.map encR)), some (encR r), none] = some (!decide (∃ p, Ext S now begun p ∧ S.keeps p (r ++ [w]) = true)) := by
        simp only [tNot_e, tB_e, bA_e, aCons_e, aNil_e, asL_e _ _ cp, Option.bind_some, Option.map_some, anyD_e, e6]
      unfold lp_clash_of_1
      rw [stIf_e, e7, Option.bind_some]
      by_cases c : ∃ p, Ext S now begun p ∧ S.keeps p (r ++ [w]) = true
      · rw [decide_eq_true c, if_neg (by decide), if_pos c]
        exact ⟨_, by simp, rfl, .inl ⟨_, rfl, _, rfl⟩⟩
      · rw [decide_eq_false c, if_pos (by decide), if_neg c]
        exact ⟨_, by simp, rfl, _, _, rfl⟩)
  have start : (sq (stSet 5 (bA (gN 3 f_plans_on) (aCat 1 2 (aCons (vr 0) aNil) (aCons (vr 3) (aCons (vr 4) aNil)))))
      (sq (stFor (listI (bA (gN 1 f_parts_of) (aCons (vr 1) aNil))) (setD 6) lp_clash_of_1) (stRet (cD .none)))) [some (encS' S), some (encR prom), some (.int w), some (.int now), some (encR begun), none, none, none] = (some o).bind fun o => match o with | .nx δ' => stRet (cD .none) δ' | o => some o := by
    simp [e1, e2]
    rw [t1]
    cases o <;> rfl
  unfold f_clash_of h_clash_of runP startD
  show ∃ d, (sq _ _ [some (encS' S), some (encR prom), some (.int w), some (.int now), some (encR begun), none, none, none]).bind outRs = some (.ok d) ∧ _
  rw [start, Option.bind_some]
  cases hf : P.foldlM (m := Option) (fun (_ : Unit) r => if (∃ p, Ext S now begun p ∧ S.keeps p (r ++ [w]) = true) then some () else none) () with
  | none =>
    rw [hf] at t2
    obtain ⟨r, δ, rfl⟩ := t2
    refine ⟨encR r, rfl, (fun z => by cases z), (fun _ => ⟨r, rfl⟩), fun ⟨p, k1, k2⟩ => ?_⟩
    have fails : ∀ P : List (List Int), (∀ r ∈ P, ∃ p, Ext S now begun p ∧ S.keeps p (r ++ [w]) = true) → P.foldlM (m := Option) (fun (_ : Unit) r => if (∃ p, Ext S now begun p ∧ S.keeps p (r ++ [w]) = true) then some () else none) () = some () := by
      intro P
      induction P with
      | nil => intro _; rfl
      | cons x P ih =>
        intro h
        rw [List.foldlM_cons, if_pos (h x List.mem_cons_self)]
        exact ih fun r hr => h r (List.mem_cons_of_mem _ hr)
    rw [fails P fun r hr => ⟨p, k1, ?_⟩] at hf
    · cases hf
    · unfold Sky.keeps at k2 ⊢
      rw [List.all_eq_true] at k2 ⊢
      intro u hu
      rcases List.mem_append.mp hu with y | y
      · exact k2 u (List.mem_append.mpr (.inl (p4 r hr u y)))
      · exact k2 u (List.mem_append.mpr (.inr y))
  | some u =>
    rw [hf] at t2
    obtain ⟨δ, rfl, _⟩ := t2
    refine ⟨.none, rfl, fun _ => ?_, (fun z => by cases z), fun _ => rfl⟩
    have all : ∀ P : List (List Int), P.foldlM (m := Option) (fun (_ : Unit) r => if (∃ p, Ext S now begun p ∧ S.keeps p (r ++ [w]) = true) then some () else none) () = some u → ∀ r ∈ P, ∃ p, Ext S now begun p ∧ S.keeps p (r ++ [w]) = true := by
      intro P
      induction P with
      | nil => intro _ r hr; cases hr
      | cons x P ih =>
        intro h r hr
        rw [List.foldlM_cons] at h
        by_cases c : ∃ p, Ext S now begun p ∧ S.keeps p (x ++ [w]) = true
        · rw [if_pos c] at h
          rcases List.mem_cons.mp hr with rfl | z
          · exact c
          · exact ih h r z
        · rw [if_neg c] at h
          cases h
    exact all P hf prom p2
end Sk
set_option Elab.async false
set_option linter.all false
set_option maxRecDepth 100000
set_option maxHeartbeats 4000000
/-! Skies that are checked; late wishes. -/
namespace Sk
open PySem L2 Dl
@[simp] theorem gw (v lo hi : Int) : gN 3 f_is_within [.int v, .int lo, .int hi] = some (.bool (decide (lo ≤ v ∧ v ≤ hi))) := gN_e (n := 3) (is_within_e v lo hi) rfl
@[simp] theorem stRaise_e (c : Nat) (f : Dt → Option (List PyData)) (δ : Dt) : stRaise c f δ = (f δ).map fun _ => .ex c δ := rfl
theorem stE_ok {n : Nat} {g : List PyData → Option Rs} {f : Dt → Option (List PyData)} {δ : Dt} {ds : List PyData} {d : PyData} (hf : f δ = some ds) (hl : ds.length = n) (hg : g ds = some (.ok d)) : stE (eCall n g f) δ = some (.nx δ) := by
  unfold stE eCall
  rw [hf, Option.bind_some, if_pos hl, hg]
  rfl
theorem stE_ex {n : Nat} {g : List PyData → Option Rs} {f : Dt → Option (List PyData)} {δ : Dt} {ds : List PyData} {c : Nat} (hf : f δ = some ds) (hl : ds.length = n) (hg : g ds = some (.ex c)) : stE (eCall n g f) δ = some (.ex c δ) := by
  unfold stE eCall
  rw [hf, Option.bind_some, if_pos hl, hg]
  rfl
def LookOk (many : Int) (l : Look) : Prop := (0 ≤ l.w ∧ l.w < many) ∧ (0 ≤ l.s ∧ l.s ≤ 200) ∧ (1 ≤ l.n ∧ l.n ≤ 20) ∧ (-90 ≤ l.a ∧ l.a ≤ 90) ∧ (1 ≤ l.z ∧ l.z ≤ 30)
def EarOk (e : Ear) : Prop := (0 ≤ e.f ∧ e.f < e.l ∧ e.l ≤ 200) ∧ (1 ≤ e.r ∧ e.r ≤ 30)
theorem iff_dec {p q : Prop} [Decidable p] [Decidable q] (h : p ↔ q) : decide p = decide q := by simp [h]
theorem check_look_e (l : Look) (many since : Int) (hs : 0 ≤ since) : (LookOk many l ∧ since ≤ l.s ∧ f_check_look [encL l, .int many, .int since] = some (.ok .none)) ∨ (¬ (LookOk many l ∧ since ≤ l.s) ∧ ∃ c, c < 7 ∧ f_check_look [encL l, .int many, .int since] = some (.ex c)) := by
  unfold f_check_look h_check_look runP startD LookOk
  by_cases c1 : 0 ≤ l.w ∧ l.w ≤ many - 1
  · by_cases c2 : (0 ≤ l.s ∧ l.s ≤ 200) ∧ (1 ≤ l.n ∧ l.n ≤ 20) ∧ ¬ l.s < since
    · by_cases c3 : (-90 ≤ l.a ∧ l.a ≤ 90) ∧ (1 ≤ l.z ∧ l.z ≤ 30)
      · left
        refine ⟨by omega, by omega, ?_⟩
        obtain ⟨a1, a2, a3⟩ := c2
        obtain ⟨a4, a5⟩ := c3
        simp [encL, c1, a1, a2, a3, a4, a5]
      · right
        refine ⟨by omega, 1, by decide, ?_⟩
        obtain ⟨a1, a2, a3⟩ := c2
        by_cases a4 : (-90 ≤ l.a ∧ l.a ≤ 90)
        · have a5 : ¬ (1 ≤ l.z ∧ l.z ≤ 30) := fun z => c3 ⟨a4, z⟩
          simp only [encL]
          simp [c1, a1, a2, a3, a4, decide_eq_false a5]
        · simp only [encL]
          simp [c1, a1, a2, a3, decide_eq_false a4]
    · right
      refine ⟨by omega, 3, by decide, ?_⟩
      by_cases a1 : 0 ≤ l.s ∧ l.s ≤ 200
      · by_cases a2 : 1 ≤ l.n ∧ l.n ≤ 20
        · have a3 : l.s < since := by omega
          simp [encL, c1, a1, a2, a3]
        · simp [encL, c1, a1, decide_eq_false a2]
      · simp [encL, c1, decide_eq_false a1]
  · right
    refine ⟨by omega, 2, by decide, ?_⟩
    simp [encL, decide_eq_false c1]
theorem check_ear_e (e : Ear) (since : Int) (hs : 0 ≤ since) : (EarOk e ∧ since ≤ e.f ∧ f_check_ear [encE e, .int since] = some (.ok .none)) ∨ (¬ (EarOk e ∧ since ≤ e.f) ∧ ∃ c, c < 7 ∧ f_check_ear [encE e, .int since] = some (.ex c)) := by
  unfold f_check_ear h_check_ear runP startD EarOk
  by_cases c1 : since ≤ e.f ∧ e.f ≤ 200
  · by_cases c2 : e.f + 1 ≤ e.l ∧ e.l ≤ 200
    · by_cases c3 : 1 ≤ e.r ∧ e.r ≤ 30
      · left
        refine ⟨by omega, by omega, ?_⟩
        simp [encE, c1, c2, c3]
      · right
        refine ⟨by omega, 1, by decide, ?_⟩
        simp [encE, c1, c2, decide_eq_false c3]
    · right
      refine ⟨by omega, 3, by decide, ?_⟩
      simp [encE, c1, decide_eq_false c2]
  · right
    refine ⟨by omega, 3, by decide, ?_⟩
    simp [encE, decide_eq_false c1]
open Classical in
noncomputable def chainS {α : Type} (ok : α → Prop) (lo hi : α → Int) (c : Int) (x : α) : Option Int := if ok x ∧ c ≤ lo x then some (hi x) else none
theorem chain_all {α : Type} {ok : α → Prop} {lo hi : α → Int} (hle : ∀ x, ok x → lo x ≤ hi x) : ∀ (xs : List α) (c : Int), (∃ c', xs.foldlM (chainS ok lo hi) c = some c') ↔ ((∀ x ∈ xs, ok x ∧ c ≤ lo x) ∧ xs.Pairwise fun a b => hi a ≤ lo b)
  | [], c => by
    constructor
    · intro _; exact ⟨(fun x hx => by cases hx), List.Pairwise.nil⟩
    · intro _; exact ⟨c, rfl⟩
  | x :: xs, c => by
    rw [List.foldlM_cons]
    unfold chainS
    by_cases h : ok x ∧ c ≤ lo x
    · rw [if_pos h]
      show (∃ c', xs.foldlM (chainS ok lo hi) (hi x) = some c') ↔ _
      rw [chain_all hle xs (hi x), List.pairwise_cons]
      have := hle x h.1
      constructor
      · rintro ⟨h1, h2⟩
        refine ⟨fun y hy => ?_, fun y hy => (h1 y hy).2, h2⟩
        rcases List.mem_cons.mp hy with rfl | z
        · exact h
        · have := h1 y z
          exact ⟨this.1, by omega⟩
      · rintro ⟨h1, h2, h3⟩
        exact ⟨fun y hy => ⟨(h1 y (List.mem_cons_of_mem _ hy)).1, h2 y hy⟩, h3⟩
    · rw [if_neg h]
      constructor
      · rintro ⟨c', z⟩; cases z
      · rintro ⟨h1, _⟩; exact absurd (h1 x List.mem_cons_self) h
@[simp] theorem chD_e (g h : PyData → PyData → Option PyData) (fa fb fc : Dt → Option PyData) (δ : Dt) : chD g h fa fb fc δ = chD g h fa fb fc δ := rfl
structure Chk (S : Sky) : Prop where
  v : Valid S
  e : S.ears.Pairwise fun a b => a.l ≤ b.f
theorem check_sky_e (S : Sky) : (Chk S ∧ f_check_sky [encS' S] = some (.ok .none)) ∨ (¬ Chk S ∧ ∃ c, c < 7 ∧ f_check_sky [encS' S] = some (.ex c)) := by
  classical
  obtain ⟨looks, worths, ears, cap, turn⟩ := S
  obtain ⟨pl, hpl⟩ : ∃ pl, pl = PyData.list (looks.map encL) := ⟨_, rfl⟩
  obtain ⟨pw, hpw⟩ : ∃ pw, pw = PyData.list (worths.map .int) := ⟨_, rfl⟩
  obtain ⟨pe, hpe⟩ : ∃ pe, pe = PyData.list (ears.map encE) := ⟨_, rfl⟩
  obtain ⟨ps, hps⟩ : ∃ ps, ps = PyData.tuple [pl, pw, pe, .int cap, .int turn] := ⟨_, rfl⟩
  have hS : encS' ⟨looks, worths, ears, cap, turn⟩ = ps := by rw [hps, hpl, hpw, hpe]; rfl
  rw [hS]
  let δ0 : Option PyData → Option PyData → Option PyData → Dt := fun x7 x8 x9 => [some ps, some pl, some pw, some pe, some (.int cap), some (.int turn), none, x7, x8, x9]
  have e0 : stG (vr 0) (gT 5 (gsCons (setD 1) (gsCons (setD 2) (gsCons (setD 3) (gsCons (setD 4) (gsCons (setD 5) gsNil)))))) [some ps, none, none, none, none, none, none, none, none, none] = some (.nx (δ0 none none none)) := by
    rw [hps]; simp [δ0, hps]
  by_cases c1 : 1 ≤ worths.length ∧ worths.length ≤ 6
  case neg =>
    right
    refine ⟨fun z => c1 z.v.nw, 0, by decide, ?_⟩
    unfold f_check_sky h_check_sky runP
    show (sq _ _ [some ps, none, none, none, none, none, none, none, none, none]).bind outRs = _
    rw [sq_e, e0, Option.bind_some]
    have c1' : ¬ ((1 : Int) ≤ (worths.length : Int) ∧ (worths.length : Int) ≤ 6) := by omega
    by_cases d1 : (1 : Int) ≤ (worths.length : Int)
    · have d2 : ¬ (worths.length : Int) ≤ 6 := by omega
      simp [δ0, chD, hpw, d1, d2]
    · simp [δ0, chD, hpw, d1]
  have e1 : stIf (tNotD (tB (chD leI leI (cD (.int 1)) (bA lenD (aCons (vr 2) aNil)) (cD (.int 6))))) (stRaise 0 aNil) stNx (δ0 none none none) = some (.nx (δ0 none none none)) := by
    have d1 : (1 : Int) ≤ (worths.length : Int) := by omega
    have d2 : (worths.length : Int) ≤ 6 := by omega
    simp [δ0, chD, hpw, d1, d2]
  have e2 : asL cp_check_sky_1 (δ0 none none none) = some (.list ((worths.map fun w => decide (0 ≤ w ∧ w ≤ 99)).map .bool)) := by
    refine asL_e _ _ ?_
    unfold cp_check_sky_1
    rw [List.map_map]
    refine lcD_e (ds := worths.map .int) (by simp [δ0, hpw]) (by simp; omega) ?_
    refine lc_all (f := PyData.int) _ worths fun w hw => ⟨[some ps, some pl, some pw, some pe, some (.int cap), some (.int turn), some (.int w), none, none, none], by simp [wipeD, δ0], by simp⟩
  by_cases c2 : ∀ w ∈ worths, 0 ≤ w ∧ w ≤ 99
  case neg =>
    right
    refine ⟨fun z => c2 z.v.wr, 1, by decide, ?_⟩
    unfold f_check_sky h_check_sky runP
    show (sq _ _ [some ps, none, none, none, none, none, none, none, none, none]).bind outRs = _
    rw [sq_e, e0, Option.bind_some]
    show (sq _ _ _).bind outRs = _
    rw [sq_e, e1, Option.bind_some]
    show (sq _ _ _).bind outRs = _
    have e3 : stIf (tNotD (tB (bA allD (aCons (asL cp_check_sky_1) aNil)))) (stRaise 1 aNil) stNx (δ0 none none none) = some (.ex 1 (δ0 none none none)) := by
      have : (worths.map fun w => decide (0 ≤ w ∧ w ≤ 99)).all id = false := by
        rw [← Bool.not_eq_true, List.all_map, List.all_eq_true]
        intro z
        exact c2 fun w hw => by simpa using z w hw
      simp only [stIf_e, tNot_e, tB_e, bA_e, aCons_e, aNil_e, e2, Option.bind_some, Option.map_some, allD_e, this]
      rfl
    rw [sq_e, e3]
    rfl
  have e3 : stIf (tNotD (tB (bA allD (aCons (asL cp_check_sky_1) aNil)))) (stRaise 1 aNil) stNx (δ0 none none none) = some (.nx (δ0 none none none)) := by
    have : (worths.map fun w => decide (0 ≤ w ∧ w ≤ 99)).all id = true := by
      rw [List.all_map, List.all_eq_true]
      intro w hw
      simpa using c2 w hw
    simp only [stIf_e, tNot_e, tB_e, bA_e, aCons_e, aNil_e, e2, Option.bind_some, Option.map_some, allD_e, this]
    rfl
  by_cases c3 : looks.length ≤ 16
  case neg =>
    right
    refine ⟨fun z => c3 z.v.nl, 0, by decide, ?_⟩
    unfold f_check_sky h_check_sky runP
    show (sq _ _ [some ps, none, none, none, none, none, none, none, none, none]).bind outRs = _
    rw [sq_e, e0, Option.bind_some]
    show (sq _ _ _).bind outRs = _
    rw [sq_e, e1, Option.bind_some]
    show (sq _ _ _).bind outRs = _
    rw [sq_e, e3, Option.bind_some]
    have d : (16 : Int) < (looks.length : Int) := by omega
    simp [δ0, hpl, d]
  have e4 : stIf (tB (b2 gtI (bA lenD (aCons (vr 1) aNil)) (cD (.int 16)))) (stRaise 0 aNil) stNx (δ0 none none none) = some (.nx (δ0 none none none)) := by
    have d : ¬ (16 : Int) < (looks.length : Int) := by omega
    simp [δ0, hpl, d]
  have e5 : stSet 7 (cD (.int 0)) (δ0 none none none) = some (.nx (δ0 (some (.int 0)) none none)) := by simp [δ0]
  obtain ⟨o, t1, t2⟩ := forL_run (r := fun l d => d = encL l) (g := setD 8) (fb := lp_check_sky_1)
    (fun (c : Int) δ => 0 ≤ c ∧ ∃ x8, δ = δ0 (some (.int c)) x8 none) (fun o => ∃ c δ, c < 7 ∧ o = .ex c δ) (fun o ⟨c, δ, _, e⟩ => by rw [e]; trivial) (chainS (LookOk worths.length) (·.s) (·.s)) (Al.map looks) 0 (δ0 (some (.int 0)) none none) ⟨Int.le_refl _, _, rfl⟩ (by
      rintro c l d δ hl rfl ⟨hc, x8, rfl⟩
      refine ⟨δ0 (some (.int c)) (some (encL l)) none, ?_⟩
      have h6 : aCons (vr 8) (aCons (bA lenD (aCons (vr 2) aNil)) (aCons (vr 7) aNil)) (δ0 (some (.int c)) (some (encL l)) none) = some [encL l, .int worths.length, .int c] := by
        simp [δ0, hpw]
      unfold lp_check_sky_1
      rw [sq_e]
      unfold chainS
      rcases check_look_e l worths.length c hc with ⟨a1, a2, a3⟩ | ⟨a1, c', a2, a3⟩
      · rw [stE_ok (n := 3) h6 rfl a3, if_pos ⟨a1, a2⟩]
        exact ⟨.nx (δ0 (some (.int l.s)) (some (encL l)) none), by simp [δ0], by simp [δ0, encL], .inl ⟨_, rfl, by have := a1.2.1; show 0 ≤ l.s; omega, _, rfl⟩⟩
      · rw [stE_ex (n := 3) h6 rfl a3, if_neg a1]
        exact ⟨_, by simp [δ0], rfl, c', _, a2, rfl⟩)
  have hch := chain_all (ok := LookOk worths.length) (lo := fun l => l.s) (hi := fun l => l.s) (fun x _ => Int.le_refl _) looks 0
  have e6 : listI (vr 1) (δ0 (some (.int 0)) none none) = some (looks.map encL) := by simp [δ0, hpl]
  cases hf : looks.foldlM (chainS (LookOk worths.length) (fun l => l.s) (fun l => l.s)) 0 with
  | none =>
    rw [hf] at t2
    obtain ⟨c, δ, hc, rfl⟩ := t2
    right
    refine ⟨fun z => ?_, c, hc, ?_⟩
    · obtain ⟨c', hc'⟩ := hch.mpr ⟨fun l hl => ⟨z.v.lk l hl, (z.v.lk l hl).2.1.1⟩, z.v.srt⟩
      rw [hf] at hc'
      cases hc'
    · unfold f_check_sky h_check_sky runP
      show (sq _ _ [some ps, none, none, none, none, none, none, none, none, none]).bind outRs = _
      rw [sq_e, e0, Option.bind_some]
      show (sq _ _ _).bind outRs = _
      rw [sq_e, e1, Option.bind_some]
      show (sq _ _ _).bind outRs = _
      rw [sq_e, e3, Option.bind_some]
      show (sq _ _ _).bind outRs = _
      rw [sq_e, e4, Option.bind_some]
      show (sq _ _ _).bind outRs = _
      rw [sq_e, e5, Option.bind_some]
      show (sq _ _ _).bind outRs = _
      rw [sq_e, stFor_e, e6, Option.bind_some, t1]
      rfl
  | some c0 =>
    rw [hf] at t2
    obtain ⟨δ1, rfl, _, x8, rfl⟩ := t2
    obtain ⟨k1, k2⟩ := hch.mp ⟨c0, hf⟩
    by_cases c4 : ears.length ≤ 4
    case neg =>
      right
      refine ⟨fun z => c4 z.v.ne, 0, by decide, ?_⟩
      unfold f_check_sky h_check_sky runP
      show (sq _ _ [some ps, none, none, none, none, none, none, none, none, none]).bind outRs = _
      rw [sq_e, e0, Option.bind_some]
      show (sq _ _ _).bind outRs = _
      rw [sq_e, e1, Option.bind_some]
      show (sq _ _ _).bind outRs = _
      rw [sq_e, e3, Option.bind_some]
      show (sq _ _ _).bind outRs = _
      rw [sq_e, e4, Option.bind_some]
      show (sq _ _ _).bind outRs = _
      rw [sq_e, e5, Option.bind_some]
      show (sq _ _ _).bind outRs = _
      rw [sq_e, stFor_e, e6, Option.bind_some, t1]
      have d : (4 : Int) < (ears.length : Int) := by omega
      simp [δ0, hpe, d]
    have e7 : stIf (tB (b2 gtI (bA lenD (aCons (vr 3) aNil)) (cD (.int 4)))) (stRaise 0 aNil) stNx (δ0 (some (.int c0)) x8 none) = some (.nx (δ0 (some (.int c0)) x8 none)) := by
      have d : ¬ (4 : Int) < (ears.length : Int) := by omega
      simp [δ0, hpe, d]
    have e8 : stSet 7 (cD (.int 0)) (δ0 (some (.int c0)) x8 none) = some (.nx (δ0 (some (.int 0)) x8 none)) := by simp [δ0]
    obtain ⟨o, s1, s2⟩ := forL_run (r := fun l d => d = encE l) (g := setD 9) (fb := lp_check_sky_2)
      (fun (c : Int) δ => 0 ≤ c ∧ ∃ x9, δ = δ0 (some (.int c)) x8 x9) (fun o => ∃ c δ, c < 7 ∧ o = .ex c δ) (fun o ⟨c, δ, _, e⟩ => by rw [e]; trivial) (chainS EarOk (·.f) (·.l)) (Al.map ears) 0 (δ0 (some (.int 0)) x8 none) ⟨Int.le_refl _, _, rfl⟩ (by
        rintro c l d δ hl rfl ⟨hc, x9, rfl⟩
        refine ⟨δ0 (some (.int c)) x8 (some (encE l)), ?_⟩
        have h6 : aCons (vr 9) (aCons (vr 7) aNil) (δ0 (some (.int c)) x8 (some (encE l))) = some [encE l, .int c] := by
          simp [δ0]
        unfold lp_check_sky_2
        rw [sq_e]
        unfold chainS
        rcases check_ear_e l c hc with ⟨a1, a2, a3⟩ | ⟨a1, c', a2, a3⟩
        · rw [stE_ok (n := 2) h6 rfl a3, if_pos ⟨a1, a2⟩]
          exact ⟨.nx (δ0 (some (.int l.l)) x8 (some (encE l))), by simp [δ0], by simp [δ0, encE], .inl ⟨_, rfl, by have := a1.1; show 0 ≤ l.l; omega, _, rfl⟩⟩
        · rw [stE_ex (n := 2) h6 rfl a3, if_neg a1]
          exact ⟨_, by simp [δ0], rfl, c', _, a2, rfl⟩)
    have hce := chain_all (ok := EarOk) (lo := fun l => l.f) (hi := fun l => l.l) (fun x h => by have := h.1; omega) ears 0
    have e9 : listI (vr 3) (δ0 (some (.int 0)) x8 none) = some (ears.map encE) := by simp [δ0, hpe]
    have start : ∀ r, (sq (stFor (listI (vr 3)) (setD 9) lp_check_sky_2) (stIf (tOrD (tNotD (tB (bA (gN 3 f_is_within) (aCons (vr 4) (aCons (cD (.int 1)) (aCons (cD (.int 30)) aNil)))))) (tNotD (tB (bA (gN 3 f_is_within) (aCons (vr 5) (aCons (cD (.int 1)) (aCons (cD (.int 90)) aNil))))))) (stRaise 1 aNil) stNx) (δ0 (some (.int 0)) x8 none)).bind outRs = r → f_check_sky [ps] = r := by
      intro r hr
      unfold f_check_sky h_check_sky runP
      show (sq _ _ [some ps, none, none, none, none, none, none, none, none, none]).bind outRs = _
      rw [sq_e, e0, Option.bind_some]
      show (sq _ _ _).bind outRs = _
      rw [sq_e, e1, Option.bind_some]
      show (sq _ _ _).bind outRs = _
      rw [sq_e, e3, Option.bind_some]
      show (sq _ _ _).bind outRs = _
      rw [sq_e, e4, Option.bind_some]
      show (sq _ _ _).bind outRs = _
      rw [sq_e, e5, Option.bind_some]
      show (sq _ _ _).bind outRs = _
      rw [sq_e, stFor_e, e6, Option.bind_some, t1, Option.bind_some]
      show (sq _ _ _).bind outRs = _
      rw [sq_e, e7, Option.bind_some]
      show (sq _ _ _).bind outRs = _
      rw [sq_e, e8, Option.bind_some]
      exact hr
    cases hg : ears.foldlM (chainS EarOk (fun l => l.f) (fun l => l.l)) 0 with
    | none =>
      rw [hg] at s2
      obtain ⟨c, δ, hc, rfl⟩ := s2
      right
      refine ⟨fun z => ?_, c, hc, start _ ?_⟩
      · obtain ⟨c', hc'⟩ := hce.mpr ⟨fun l hl => ⟨z.v.er l hl, (z.v.er l hl).1.1⟩, z.e⟩
        rw [hg] at hc'
        cases hc'
      · rw [sq_e, stFor_e, e9, Option.bind_some, s1]
        rfl
    | some c5 =>
      rw [hg] at s2
      obtain ⟨δ1, rfl, _, x9, rfl⟩ := s2
      obtain ⟨k3, k4⟩ := hce.mp ⟨c5, hg⟩
      by_cases c6 : (1 ≤ cap ∧ cap ≤ 30) ∧ (1 ≤ turn ∧ turn ≤ 90)
      · left
        refine ⟨⟨⟨c1, c2, c3, fun l hl => (k1 l hl).1, k2, c4, fun l hl => (k3 l hl).1, c6.1, c6.2⟩, k4⟩, start _ ?_⟩
        rw [sq_e, stFor_e, e9, Option.bind_some, s1, Option.bind_some]
        simp [δ0, c6.1, c6.2]
      · right
        refine ⟨fun z => c6 ⟨z.v.cp, z.v.tn⟩, 1, by decide, start _ ?_⟩
        rw [sq_e, stFor_e, e9, Option.bind_some, s1, Option.bind_some]
        by_cases c7 : 1 ≤ cap ∧ cap ≤ 30
        · have c8 : ¬ (1 ≤ turn ∧ turn ≤ 90) := fun z => c6 ⟨c7, z⟩
          simp [δ0, c7, decide_eq_false c8]
        · simp [δ0, decide_eq_false c7]
end Sk
set_option Elab.async false
set_option linter.all false
set_option maxRecDepth 100000
set_option maxHeartbeats 4000000
/-! Late wishes. -/
namespace Sk
open PySem L2 Dl
theorem catT_e {a b : List PyData} (h : a.length + b.length ≤ 16777216) : catT (.tuple a) (.tuple b) = some (.tuple (a ++ b)) := if_pos (by rw [sizeLine_eq]; exact h)
structure Raw where
  s : Int
  n : Int
  a : Int
  z : Int
def encW (r : Raw) : PyData := .tuple [.int r.s, .int r.n, .int r.a, .int r.z]
def Raw.look (r : Raw) (w : Int) : Look := ⟨w, r.s, r.n, r.a, r.z⟩
def byS (a b : Look) : Bool := decide (a.s ≤ b.s)
def Sky.late (S : Sky) (worth : Int) (rs : List Raw) : Sky := ⟨(S.looks ++ rs.map fun r => r.look S.worths.length).mergeSort byS, S.worths ++ [worth], S.ears, S.cap, S.turn⟩
def toT (l : Look) : T2 := (l.w, l.s, [l.n, l.a, l.z])
theorem encT_toT (l : Look) : encT (toT l) = encL l := rfl
theorem tups2_map : ∀ l : List T2, tups2 (l.map encT) = some l
  | [] => rfl
  | ⟨a, b, c⟩ :: l => by
    show (intsOf (c.map .int)).bind (fun d => (tups2 (l.map encT)).map ((a, b, d) :: ·)) = _
    rw [intsOf_map, Option.bind_some, tups2_map l]
    rfl
theorem srtT_e (l : List Look) : srtK encT (fun d : T2 => .int d.2.1) tups2 (.list (l.map encL)) = some (.list ((l.mergeSort byS).map encL)) := by
  have e : l.map encL = (l.map toT).map encT := by rw [List.map_map]; rfl
  rw [e]
  unfold srtK
  dsimp only
  rw [tups2_map, Option.map_some]
  have hle : PySem.W.dataLe false (fun d : T2 => PyData.int d.2.1) = fun a b => decide (a.2.1 ≤ b.2.1) := PySem.W.dataLe_int (fun d : T2 => d.2.1)
  rw [hle]
  have m := List.map_mergeSort (f := toT) (r := byS) (s := fun a b : T2 => decide (a.2.1 ≤ b.2.1)) (l := l) (fun a _ b _ => rfl)
  rw [← m, List.map_map]
  rfl
theorem with_late_e (S : Sky) (worth now : Int) (rs : List Raw) (h1 : S.looks.length ≤ 1000) (h2 : rs.length ≤ 1000) (h3 : S.worths.length ≤ 1000) (h4 : S.ears.length ≤ 1000) : (∃ c, c < 7 ∧ f_with_late [encS' S, .int worth, .list (rs.map encW), .int now] = some (.ex c)) ∨ ((∀ r ∈ rs, now ≤ r.s) ∧ Valid (S.late worth rs) ∧ f_with_late [encS' S, .int worth, .list (rs.map encW), .int now] = some (.ok (encS' (S.late worth rs)))) := by
  obtain ⟨W, hW⟩ : ∃ W : Int, W = S.worths.length := ⟨_, rfl⟩
  let δ0 : Option PyData → Option PyData → Option PyData → Dt := fun x4 x6 x7 => [some (encS' S), some (.int worth), some (.list (rs.map encW)), some (.int now), x4, none, x6, x7]
  have e0 : stSet 4 (bA lenD (aCons (b2 ixD (vr 0) (cD (.int 1))) aNil)) (δ0 none none none) = some (.nx (δ0 (some (.int W)) none none)) := by
    simp [δ0, getW, hW]
  have e1 : asL cp_with_late_1 (δ0 (some (.int W)) none none) = some (.list ((rs.map fun r => decide (r.s < now)).map .bool)) := by
    refine asL_e _ _ ?_
    unfold cp_with_late_1
    rw [List.map_map]
    refine lcD_e (ds := rs.map encW) (by simp [δ0]) (by simp; omega) ?_
    refine lc_all (f := encW) _ rs fun r hr => ⟨[some (encS' S), some (.int worth), some (.list (rs.map encW)), some (.int now), some (.int W), some (encW r), none, none], by simp [wipeD, δ0], by simp [encW]⟩
  have e2 : asL cp_with_late_2 (δ0 (some (.int W)) none none) = some (.list ((rs.map fun r => r.look W).map encL)) := by
    refine asL_e _ _ ?_
    unfold cp_with_late_2
    rw [List.map_map]
    refine lcD_e (ds := rs.map encW) (by simp [δ0]) (by simp; omega) ?_
    refine lc_all (f := encW) _ rs fun r hr => ⟨[some (encS' S), some (.int worth), some (.list (rs.map encW)), some (.int now), some (.int W), some (encW r), none, none], by simp [wipeD, δ0], ?_⟩
    have z : catT (.tuple [.int W]) (.tuple [.int r.s, .int r.n, .int r.a, .int r.z]) = some (.tuple [.int W, .int r.s, .int r.n, .int r.a, .int r.z]) := catT_e (by simp)
    simp [encW, toTup, z, encL, Raw.look]
  by_cases c1 : ∃ r ∈ rs, r.s < now
  · left
    refine ⟨3, by decide, ?_⟩
    have e3 : stIf (tB (bA anyD (aCons (asL cp_with_late_1) aNil))) (stRaise 3 aNil) stNx (δ0 (some (.int W)) none none) = some (.ex 3 (δ0 (some (.int W)) none none)) := by
      have : (rs.map fun r => decide (r.s < now)).any id = true := by
        rw [List.any_map, List.any_eq_true]
        obtain ⟨r, hr, z⟩ := c1
        exact ⟨r, hr, by simpa using z⟩
      simp only [stIf_e, tB_e, bA_e, aCons_e, aNil_e, e1, Option.bind_some, Option.map_some, anyD_e, this]
      rfl
    unfold f_with_late h_with_late runP
    show (sq _ _ (δ0 none none none)).bind outRs = _
    rw [sq_e, e0, Option.bind_some]
    show (sq _ _ _).bind outRs = _
    rw [sq_e, e3]
    rfl
  · have e3 : stIf (tB (bA anyD (aCons (asL cp_with_late_1) aNil))) (stRaise 3 aNil) stNx (δ0 (some (.int W)) none none) = some (.nx (δ0 (some (.int W)) none none)) := by
      have : (rs.map fun r => decide (r.s < now)).any id = false := by
        rw [← Bool.not_eq_true, List.any_map, List.any_eq_true]
        rintro ⟨r, hr, z⟩
        exact c1 ⟨r, hr, by simpa using z⟩
      simp only [stIf_e, tB_e, bA_e, aCons_e, aNil_e, e1, Option.bind_some, Option.map_some, anyD_e, this]
      rfl
    obtain ⟨M, hM⟩ : ∃ M, M = S.looks ++ rs.map fun r => r.look W := ⟨_, rfl⟩
    have e4 : stSet 6 (b2 catL (asL (bA Dl.listOf (aCons (b2 ixD (vr 0) (cD (.int 0))) aNil))) (asL cp_with_late_2)) (δ0 (some (.int W)) none none) = some (.nx (δ0 (some (.int W)) (some (.list (M.map encL))) none)) := by
      have z : asL (bA Dl.listOf (aCons (b2 ixD (vr 0) (cD (.int 0))) aNil)) (δ0 (some (.int W)) none none) = some (.list (S.looks.map encL)) := asL_e _ _ (by simp [δ0, getL, Dl.listOf])
      rw [stSet_e, b2_e, z, e2, Option.bind_some, Option.bind_some, catL_e (by simp; omega), ← List.map_append, ← hM]
      rfl
    have e5 : stSet 7 (bA (fun l => (szOk l).map .tuple) (aCons (b1 (srtK encT (fun d : T2 => .int d.2.1) tups2) (vr 6)) (aCons (b2 catL (asL (bA Dl.listOf (aCons (b2 ixD (vr 0) (cD (.int 1))) aNil))) (asL (bA (fun l => (szOk l).map .list) (aCons (vr 1) aNil)))) (aCons (asL (bA Dl.listOf (aCons (b2 ixD (vr 0) (cD (.int 2))) aNil))) (aCons (b2 ixD (vr 0) (cD (.int 3))) (aCons (b2 ixD (vr 0) (cD (.int 4))) aNil)))))) (δ0 (some (.int W)) (some (.list (M.map encL))) none) = some (.nx (δ0 (some (.int W)) (some (.list (M.map encL))) (some (encS' (S.late worth rs))))) := by
      have z1 : asL (bA Dl.listOf (aCons (b2 ixD (vr 0) (cD (.int 1))) aNil)) (δ0 (some (.int W)) (some (.list (M.map encL))) none) = some (.list (S.worths.map .int)) := asL_e _ _ (by simp [δ0, getW, Dl.listOf])
      have z2 : asL (bA Dl.listOf (aCons (b2 ixD (vr 0) (cD (.int 2))) aNil)) (δ0 (some (.int W)) (some (.list (M.map encL))) none) = some (.list (S.ears.map encE)) := asL_e _ _ (by simp [δ0, encS', Dl.listOf])
      have z3 : asL (bA (fun l => (szOk l).map .list) (aCons (vr 1) aNil)) (δ0 (some (.int W)) (some (.list (M.map encL))) none) = some (.list [.int worth]) := asL_e _ _ (by simp [δ0])
      have z4 : b1 (srtK encT (fun d : T2 => .int d.2.1) tups2) (vr 6) (δ0 (some (.int W)) (some (.list (M.map encL))) none) = some (.list ((M.mergeSort byS).map encL)) := by
        rw [b1_e]
        show (some (PyData.list (M.map encL))).bind _ = _
        rw [Option.bind_some, srtT_e]
      have z5 : b2 catL (asL (bA Dl.listOf (aCons (b2 ixD (vr 0) (cD (.int 1))) aNil))) (asL (bA (fun l => (szOk l).map .list) (aCons (vr 1) aNil))) (δ0 (some (.int W)) (some (.list (M.map encL))) none) = some (.list ((S.worths ++ [worth]).map .int)) := by
        rw [b2_e, z1, z3, Option.bind_some, Option.bind_some, catL_e (by simp; omega), List.map_append]
        rfl
      have z6 : b2 ixD (vr 0) (cD (.int 3)) (δ0 (some (.int W)) (some (.list (M.map encL))) none) = some (.int S.cap) := by simp [δ0, encS']
      have z7 : b2 ixD (vr 0) (cD (.int 4)) (δ0 (some (.int W)) (some (.list (M.map encL))) none) = some (.int S.turn) := by simp [δ0, encS']
      rw [stSet_e, bA_e, aCons_e, z4, aCons_e, z5, aCons_e, z2, aCons_e, z6, aCons_e, z7]
      simp only [aNil_e, Option.bind_some, Option.map_some, szOk_5]
      rw [hM, hW]
      rfl
    have start : ∀ r, (sq (stE (eCall 1 f_check_sky (aCons (vr 7) aNil))) (stRet (vr 7)) (δ0 (some (.int W)) (some (.list (M.map encL))) (some (encS' (S.late worth rs))))).bind outRs = r → f_with_late [encS' S, .int worth, .list (rs.map encW), .int now] = r := by
      intro r hr
      unfold f_with_late h_with_late runP
      show (sq _ _ (δ0 none none none)).bind outRs = _
      rw [sq_e, e0, Option.bind_some]
      show (sq _ _ _).bind outRs = _
      rw [sq_e, e3, Option.bind_some]
      show (sq _ _ _).bind outRs = _
      rw [sq_e, e4, Option.bind_some]
      show (sq _ _ _).bind outRs = _
      rw [sq_e, e5, Option.bind_some]
      exact hr
    rcases check_sky_e (S.late worth rs) with ⟨c2, c3⟩ | ⟨c2, c, hc, c3⟩
    · right
      refine ⟨fun r hr => ?_, c2.v, start _ ?_⟩
      · have : ¬ r.s < now := fun z => c1 ⟨r, hr, z⟩
        omega
      · rw [sq_e, stE_ok (n := 1) (ds := [encS' (S.late worth rs)]) rfl rfl c3]
        rfl
    · left
      refine ⟨c, hc, start _ ?_⟩
      rw [sq_e, stE_ex (n := 1) (ds := [encS' (S.late worth rs)]) rfl rfl c3]
      rfl
end Sk
set_option Elab.async false
set_option linter.all false
set_option maxRecDepth 100000
set_option maxHeartbeats 4000000
/-! What a state keeps true. -/
namespace Sk
open PySem L2 Dl
structure Stt where
  S : Sky
  now : Int
  begun : List Int
  prom : List Int
  plan : List Int
structure Inv (x : Stt) : Prop where
  v : Valid x.S
  t : 0 ≤ x.now ∧ x.now ≤ 200
  b : Begun x.S x.begun
  bs : ∀ i ∈ x.begun, (x.S.at i).s < x.now
  ps : x.prom.Pairwise (· < ·)
  pr : ∀ w ∈ x.prom, 0 ≤ w ∧ w < x.S.worths.length
  best : IsBest x.S x.now x.begun x.prom x.plan
theorem lt_len : ∀ (l : List Int) (a b : Int), l.Pairwise (· < ·) → (∀ w ∈ l, a ≤ w ∧ w < b) → (l.length : Int) ≤ max 0 (b - a)
  | [], a, b, _, _ => by simp; omega
  | w :: l, a, b, h, hr => by
    obtain ⟨h1, h2⟩ := List.pairwise_cons.mp h
    have hw := hr w List.mem_cons_self
    have := lt_len l (w + 1) b h2 fun u hu => ⟨by have := h1 u hu; omega, (hr u (List.mem_cons_of_mem _ hu)).2⟩
    rw [List.length_cons]
    omega
theorem Inv.short {x : Stt} (h : Inv x) : x.prom.length ≤ 6 := by
  have h1 := lt_len x.prom 0 x.S.worths.length h.ps h.pr
  have h2 := h.v.nw
  omega
theorem Sky.at_nat {S : Sky} {n : Nat} (h : n < S.looks.length) : S.at n = S.looks[n] := by simp [Sky.at, List.getD, List.getElem?_eq_getElem h]
theorem Valid.mono {S : Sky} (v : Valid S) {i j : Int} (hi : S.has i) (hj : S.has j) (h : i < j) : (S.at i).s ≤ (S.at j).s := by
  obtain ⟨n, rfl⟩ : ∃ n : Nat, i = n := ⟨i.toNat, by have := hi.1; omega⟩
  obtain ⟨m, rfl⟩ : ∃ m : Nat, j = m := ⟨j.toNat, by have := hj.1; omega⟩
  have h1 : n < S.looks.length := by have := hi.2; omega
  have h2 : m < S.looks.length := by have := hj.2; omega
  rw [Sky.at_nat h1, Sky.at_nat h2]
  exact List.pairwise_iff_getElem.mp v.srt n m h1 h2 (by omega)
theorem split_le (s : Int → Int) (t : Int) : ∀ (p : List Int), p.Pairwise (fun i j => s i ≤ s j) → p = p.filter (fun i => decide (s i < t)) ++ p.filter (fun i => !decide (s i < t))
  | [], _ => rfl
  | i :: p, h => by
    obtain ⟨h1, h2⟩ := List.pairwise_cons.mp h
    by_cases c : s i < t
    · rw [List.filter_cons_of_pos (by simpa using c), List.filter_cons_of_neg (by simpa using c), List.cons_append, ← split_le s t p h2]
    · have e1 : p.filter (fun i => decide (s i < t)) = [] := by
        rw [List.filter_eq_nil_iff]
        intro j hj
        have := h1 j hj
        simp
        omega
      have e2 : p.filter (fun i => !decide (s i < t)) = p := by
        rw [List.filter_eq_self]
        intro j hj
        have := h1 j hj
        simp
        omega
      rw [List.filter_cons_of_neg (by simpa using c), List.filter_cons_of_pos (by simpa using c), e1, e2]
      rfl
theorem plan_le {S : Sky} (v : Valid S) {p : List Int} (h : S.isPlan p = true) (hh : ∀ i ∈ p, S.has i) : p.Pairwise (fun i j => (S.at i).s ≤ (S.at j).s) :=
  (isPlan_lt p h).imp_of_mem fun {i j} hi hj z => v.mono (hh i hi) (hh j hj) z
/-! ### time goes -/
def Stt.go (x : Stt) (t : Int) : Stt := ⟨x.S, t, x.plan.filter (fun i => decide ((x.S.at i).s < t)), x.prom, x.plan⟩
theorem Inv.go {x : Stt} (h : Inv x) {t : Int} (h1 : x.now ≤ t) (h2 : t ≤ 200) : Inv (x.go t) := by
  obtain ⟨q0, e0, hp, hq⟩ := h.best.ext
  have hh := (h.best.ext.good h.b.has).has
  have sp := split_le (fun i => (x.S.at i).s) t x.plan (plan_le h.v hp hh)
  have hb : x.begun.filter (fun i => decide ((x.S.at i).s < t)) = x.begun := by
    rw [List.filter_eq_self]
    intro i hi
    have := h.bs i hi
    simp
    omega
  have e1 : x.plan.filter (fun i => decide ((x.S.at i).s < t)) = x.begun ++ q0.filter (fun i => decide ((x.S.at i).s < t)) := by
    rw [e0, List.filter_append, hb]
  refine ⟨h.v, ⟨by have := h.t.1; show 0 ≤ t; omega, h2⟩, ⟨?_, fun i hi => hh i (List.mem_filter.mp hi).1⟩, fun i hi => of_decide_eq_true (List.mem_filter.mp hi).2, h.ps, h.pr, ⟨?_, h.best.keeps, ?_⟩⟩
  · refine isPlan_pre (q := x.plan.filter (fun i => !decide ((x.S.at i).s < t))) ?_
    show x.S.isPlan (x.plan.filter (fun i => decide ((x.S.at i).s < t)) ++ _) = true
    rw [← sp]
    exact hp
  · refine ⟨x.plan.filter (fun i => !decide ((x.S.at i).s < t)), sp, hp, fun i hi => ?_⟩
    obtain ⟨z1, z2⟩ := List.mem_filter.mp hi
    refine ⟨hh i z1, ?_⟩
    have : ¬ (x.S.at i).s < t := by simpa using z2
    show t ≤ (x.S.at i).s
    omega
  · rintro q ⟨r, e, z1, z2⟩ z3
    refine h.best.top q ⟨q0.filter (fun i => decide ((x.S.at i).s < t)) ++ r, ?_, z1, fun i hi => ?_⟩ z3
    · rw [e]
      show x.plan.filter (fun i => decide ((x.S.at i).s < t)) ++ r = _
      rw [e1, List.append_assoc]
    · rcases List.mem_append.mp hi with z | z
      · exact hq i (List.mem_filter.mp z).1
      · have := z2 i z
        exact ⟨this.1, by have := this.2; show x.now ≤ (x.S.at i).s; have z4 : t ≤ (x.S.at i).s := this; omega⟩
/-! ### one sky in another -/
structure Emb (S S' : Sky) (now : Int) (φ : Int → Int) : Prop where
  mono : ∀ i j, S.has i → S.has j → i < j → φ i < φ j
  look : ∀ i, S.has i → S'.has (φ i) ∧ S'.at (φ i) = S.at i
  fix : ∀ i, S.has i → (S.at i).s < now → φ i = i
  ears : S'.ears = S.ears
  cap : S'.cap = S.cap
  turn : S'.turn = S.turn
theorem Emb.endOf {S S' : Sky} {now : Int} {φ : Int → Int} (h : Emb S S' now φ) {i : Int} (hi : S.has i) : S'.endOf (φ i) = S.endOf i := by
  unfold Sky.endOf
  rw [(h.look i hi).2]
theorem Emb.follows {S S' : Sky} {now : Int} {φ : Int → Int} (h : Emb S S' now φ) {i j : Int} (hi : S.has i) (hj : S.has j) : S'.follows (φ i) (φ j) = S.follows i j := by
  unfold Sky.follows Sky.turning
  rw [h.endOf hi, (h.look i hi).2, (h.look j hj).2, h.turn]
theorem Emb.stored {S S' : Sky} {now : Int} {φ : Int → Int} (h : Emb S S' now φ) {l : Option Int} (hl : ∀ i, l = some i → S.has i) (m t : Int) : S'.stored (l.map φ) m t = S.stored l m t := by
  cases l with
  | none => rfl
  | some i =>
    show max 0 (m - S'.loss (S'.endOf (φ i)) t) = max 0 (m - S.loss (S.endOf i) t)
    rw [h.endOf (hl i rfl)]
    unfold Sky.loss
    rw [h.ears]
theorem Emb.behind {S S' : Sky} {now : Int} {φ : Int → Int} (h : Emb S S' now φ) {l : Option Int} (hl : ∀ i, l = some i → S.has i) (m : Int) {j : Int} (hj : S.has j) : S'.behind (l.map φ) m (φ j) = S.behind l m j := by
  unfold Sky.behind
  rw [h.stored hl, h.stored hl, (h.look j hj).2, h.cap]
theorem Emb.wish {S S' : Sky} {now : Int} {φ : Int → Int} (h : Emb S S' now φ) {i : Int} (hi : S.has i) : S'.wish (φ i) = S.wish i := by
  unfold Sky.wish
  rw [(h.look i hi).2]
theorem Emb.wishes {S S' : Sky} {now : Int} {φ : Int → Int} (h : Emb S S' now φ) {p : List Int} (hp : ∀ i ∈ p, S.has i) : (p.map φ).map S'.wish = p.map S.wish := by
  rw [List.map_map]
  exact List.map_congr_left fun i hi => h.wish (hp i hi)
theorem Emb.plan {S S' : Sky} {now : Int} {φ : Int → Int} (h : Emb S S' now φ) (p : List Int) : S.isPlan p = true → (∀ i ∈ p, S.has i) → S'.isPlan (p.map φ) = true ∧ S'.amt (p.map φ) = S.amt p := by
  refine snoc_ind (P := fun p => S.isPlan p = true → (∀ i ∈ p, S.has i) → S'.isPlan (p.map φ) = true ∧ S'.amt (p.map φ) = S.amt p) ?_ ?_ p
  · intro _ _; exact ⟨rfl, rfl⟩
  · intro p j ih h1 hh
    obtain ⟨a1, a2, a3, a4, a5⟩ := isPlan_snoc.mp h1
    have hp : ∀ i ∈ p, S.has i := fun i hi => hh i (List.mem_append.mpr (.inl hi))
    have hj := hh j (by simp)
    obtain ⟨i1, i2⟩ := ih a1 hp
    have hl : ∀ i, p.getLast? = some i → S.has i := fun i hi => hp i (List.mem_of_getLast? hi)
    have e1 : (p.map φ).getLast? = p.getLast?.map φ := List.getLast?_map ..
    have e2 : S'.isPlan (p.map φ ++ [φ j]) = true := by
      refine isPlan_snoc.mpr ⟨i1, fun l hl' => ?_, ?_, fun l hl' => ?_, ?_⟩
      · rw [e1] at hl'
        obtain ⟨i, hi, rfl⟩ := Option.map_eq_some_iff.mp hl'
        exact h.mono i j (hl i hi) hj (a2 i hi)
      · rw [h.wishes hp, h.wish hj]; exact a3
      · rw [e1] at hl'
        obtain ⟨i, hi, rfl⟩ := Option.map_eq_some_iff.mp hl'
        rw [h.follows (hl i hi) hj]
        exact a4 i hi
      · rw [e1, i2, h.behind hl _ hj]
        exact a5
    rw [List.map_append, List.map_singleton]
    refine ⟨e2, ?_⟩
    have z1 := amt_snoc e2
    rw [e1, i2, h.behind hl _ hj, amt_snoc h1] at z1
    exact (Option.some.inj z1).symm
theorem map_fix {φ : Int → Int} : ∀ {p : List Int}, (∀ i ∈ p, φ i = i) → p.map φ = p
  | [], _ => rfl
  | i :: p, h => by rw [List.map_cons, h i List.mem_cons_self, map_fix fun j hj => h j (List.mem_cons_of_mem _ hj)]
theorem Emb.ext {S S' : Sky} {now : Int} {φ : Int → Int} (h : Emb S S' now φ) {begun p : List Int} (hb : ∀ i ∈ begun, S.has i) (hs : ∀ i ∈ begun, (S.at i).s < now) (e : Ext S now begun p) : Ext S' now begun (p.map φ) := by
  have g := e.good hb
  obtain ⟨q, rfl, h1, h2⟩ := e
  refine ⟨q.map φ, ?_, (h.plan _ h1 g.has).1, fun i hi => ?_⟩
  · rw [List.map_append, map_fix fun i hi => h.fix i (hb i hi) (hs i hi)]
  · obtain ⟨j, hj, rfl⟩ := List.mem_map.mp hi
    obtain ⟨z1, z2⟩ := h2 j hj
    obtain ⟨z3, z4⟩ := h.look j z1
    exact ⟨z3, by rw [z4]; exact z2⟩
theorem Emb.keeps {S S' : Sky} {now : Int} {φ : Int → Int} (h : Emb S S' now φ) {p : List Int} (hp : ∀ i ∈ p, S.has i) (prom : List Int) : S'.keeps (p.map φ) prom = S.keeps p prom := by
  unfold Sky.keeps
  rw [h.wishes hp]
end Sk
set_option Elab.async false
set_option linter.all false
set_option maxRecDepth 100000
set_option maxHeartbeats 4000000
/-! A late wish; a lost ear. -/
namespace Sk
open PySem L2 Dl
theorem sub_emb {α : Type} {l1 l2 : List α} (h : l1.Sublist l2) : ∃ f : Nat → Nat, (∀ i j, i < j → j < l1.length → f i < f j) ∧ ∀ i, i < l1.length → l2[f i]? = l1[i]? := by
  induction h with
  | slnil => exact ⟨id, fun i j _ h => absurd h (Nat.not_lt_zero _), fun i h => absurd h (Nat.not_lt_zero _)⟩
  | cons a _ ih =>
    obtain ⟨f, h1, h2⟩ := ih
    exact ⟨fun i => f i + 1, fun i j z1 z2 => Nat.succ_lt_succ (h1 i j z1 z2), fun i z => by rw [List.getElem?_cons_succ]; exact h2 i z⟩
  | cons_cons a _ ih =>
    obtain ⟨f, h1, h2⟩ := ih
    refine ⟨fun i => match i with | 0 => 0 | i + 1 => f i + 1, fun i j z1 z2 => ?_, fun i z => ?_⟩
    · cases j with
      | zero => exact absurd z1 (Nat.not_lt_zero _)
      | succ j => cases i with
        | zero => exact Nat.succ_pos _
        | succ i => exact Nat.succ_lt_succ (h1 i j (Nat.lt_of_succ_lt_succ z1) (Nat.lt_of_succ_lt_succ z2))
    · cases i with
      | zero => rfl
      | succ i =>
        show (a :: _)[f i + 1]? = _
        rw [List.getElem?_cons_succ, List.getElem?_cons_succ]
        exact h2 i (Nat.lt_of_succ_lt_succ z)
theorem sub_emb_pre {α : Type} (P : List α) {l1 l2 : List α} (h : l1.Sublist l2) : ∃ f : Nat → Nat, (∀ i j, i < j → j < (P ++ l1).length → f i < f j) ∧ (∀ i, i < (P ++ l1).length → (P ++ l2)[f i]? = (P ++ l1)[i]?) ∧ ∀ i, i < P.length → f i = i := by
  obtain ⟨f, h1, h2⟩ := sub_emb h
  refine ⟨fun i => if i < P.length then i else P.length + f (i - P.length), fun i j z1 z2 => ?_, fun i z => ?_, fun i z => if_pos z⟩
  · rw [List.length_append] at z2
    dsimp only
    by_cases c1 : i < P.length
    · rw [if_pos c1]
      split <;> omega
    · have c2 : ¬ j < P.length := by omega
      rw [if_neg c1, if_neg c2]
      have := h1 (i - P.length) (j - P.length) (by omega) (by omega)
      omega
  · rw [List.length_append] at z
    dsimp only
    by_cases c1 : i < P.length
    · rw [if_pos c1, List.getElem?_append_left c1, List.getElem?_append_left c1]
    · rw [if_neg c1, List.getElem?_append_right (by omega), List.getElem?_append_right (by omega)]
      have := h2 (i - P.length) (by omega)
      rw [← this]
      congr 1
      omega
theorem byS_trans (a b c : Look) (h1 : byS a b = true) (h2 : byS b c = true) : byS a c = true := by
  have := of_decide_eq_true h1
  have := of_decide_eq_true h2
  exact decide_eq_true (by omega)
theorem byS_total (a b : Look) : (byS a b || byS b a) = true := by
  unfold byS
  by_cases h : a.s ≤ b.s
  · simp [h]
  · have : b.s ≤ a.s := by omega
    simp [this]
theorem sort_pre (P R : List Look) : P.Pairwise (fun a b => a.s ≤ b.s) → (∀ a ∈ P, ∀ b ∈ R, a.s ≤ b.s) → (P ++ R).mergeSort byS = P ++ R.mergeSort byS := by
  induction P with
  | nil => intro _ _; rfl
  | cons a P ih =>
    intro h1 h2
    obtain ⟨h3, h4⟩ := List.pairwise_cons.mp h1
    have i := ih h4 fun b hb => h2 b (List.mem_cons_of_mem _ hb)
    obtain ⟨l1, l2, e1, e2, e3⟩ := List.mergeSort_cons byS_trans byS_total a (P ++ R)
    have hl : l1 = [] := by
      rw [List.eq_nil_iff_forall_not_mem]
      intro b hb
      have z := e3 b hb
      have hm : b ∈ P ++ R := by
        rw [← List.mem_mergeSort (le := byS), e2]
        exact List.mem_append.mpr (.inl hb)
      have : byS a b = true := by
        refine decide_eq_true ?_
        rcases List.mem_append.mp hm with y | y
        · exact h3 b y
        · exact h2 a List.mem_cons_self b y
      rw [this] at z
      cases z
    rw [hl] at e1 e2
    rw [List.cons_append, e1, List.cons_append, ← i, e2]
    rfl
theorem split_look (t : Int) : ∀ (p : List Look), p.Pairwise (fun a b => a.s ≤ b.s) → p = p.filter (fun l => decide (l.s < t)) ++ p.filter (fun l => !decide (l.s < t))
  | [], _ => rfl
  | i :: p, h => by
    obtain ⟨h1, h2⟩ := List.pairwise_cons.mp h
    by_cases c : i.s < t
    · rw [List.filter_cons_of_pos (by simpa using c), List.filter_cons_of_neg (by simpa using c), List.cons_append, ← split_look t p h2]
    · have e1 : p.filter (fun l => decide (l.s < t)) = [] := by
        rw [List.filter_eq_nil_iff]
        intro j hj
        have := h1 j hj
        simp
        omega
      have e2 : p.filter (fun l => !decide (l.s < t)) = p := by
        rw [List.filter_eq_self]
        intro j hj
        have := h1 j hj
        simp
        omega
      rw [List.filter_cons_of_neg (by simpa using c), List.filter_cons_of_pos (by simpa using c), e1, e2]
      rfl
theorem late_emb {S : Sky} (v : Valid S) {now worth : Int} {rs : List Raw} (hr : ∀ r ∈ rs, now ≤ r.s) : ∃ φ, Emb S (S.late worth rs) now φ := by
  obtain ⟨P, hP⟩ : ∃ P, P = S.looks.filter (fun l => decide (l.s < now)) := ⟨_, rfl⟩
  obtain ⟨Q, hQ⟩ : ∃ Q, Q = S.looks.filter (fun l => !decide (l.s < now)) := ⟨_, rfl⟩
  obtain ⟨N, hN⟩ : ∃ N, N = rs.map fun r => r.look S.worths.length := ⟨_, rfl⟩
  have e0 : S.looks = P ++ Q := by rw [hP, hQ]; exact split_look now _ v.srt
  have hs := v.srt
  rw [e0] at hs
  obtain ⟨s1, s2, s3⟩ := List.pairwise_append.mp hs
  have hPs : ∀ a ∈ P, a.s < now := fun a ha => by rw [hP] at ha; simpa using (List.mem_filter.mp ha).2
  have hQs : ∀ a ∈ Q, now ≤ a.s := fun a ha => by
    rw [hQ] at ha
    have := (List.mem_filter.mp ha).2
    have : ¬ a.s < now := by simpa using this
    omega
  have hNs : ∀ a ∈ N, now ≤ a.s := fun a ha => by
    rw [hN] at ha
    obtain ⟨r, h1, rfl⟩ := List.mem_map.mp ha
    exact hr r h1
  have e1 : (S.late worth rs).looks = P ++ (Q ++ N).mergeSort byS := by
    show (S.looks ++ rs.map fun r => r.look S.worths.length).mergeSort byS = _
    rw [← hN, e0, List.append_assoc]
    refine sort_pre _ _ s1 fun a ha b hb => ?_
    have h1 := hPs a ha
    rcases List.mem_append.mp hb with z | z
    · have := hQs b z; omega
    · have := hNs b z; omega
  have sub : Q.Sublist ((Q ++ N).mergeSort byS) := List.sublist_mergeSort byS_trans byS_total (s2.imp fun h => decide_eq_true h) (List.sublist_append_left _ _)
  obtain ⟨f, f1, f2, f3⟩ := sub_emb_pre P sub
  rw [← e0, ← e1] at f2
  rw [← e0] at f1
  refine ⟨fun i => ((f i.toNat : Nat) : Int), fun i j hi hj h => ?_, fun i hi => ?_, fun i hi h => ?_, rfl, rfl, rfl⟩
  · have := f1 i.toNat j.toNat (by have := hi.1; omega) (by have := hj.2; have := hj.1; omega)
    show ((f i.toNat : Nat) : Int) < ((f j.toNat : Nat) : Int)
    omega
  · have hl : i.toNat < S.looks.length := by have := hi.1; have := hi.2; omega
    have z := f2 i.toNat hl
    rw [List.getElem?_eq_getElem hl] at z
    obtain ⟨z1, z2⟩ := List.getElem?_eq_some_iff.mp z
    have hi2 : i = (i.toNat : Int) := by have := hi.1; omega
    refine ⟨⟨by show (0 : Int) ≤ ((f i.toNat : Nat) : Int); omega, by show ((f i.toNat : Nat) : Int) < _; omega⟩, ?_⟩
    rw [Sky.at_nat z1, z2]
    conv => rhs; rw [hi2, Sky.at_nat hl]
  · have hl : i.toNat < S.looks.length := by have := hi.1; have := hi.2; omega
    have hi2 : i = (i.toNat : Int) := by have := hi.1; omega
    have hp : i.toNat < P.length := by
      by_cases c : i.toNat < P.length
      · exact c
      · have e : S.at i ∈ Q := by
          rw [hi2, Sky.at_nat hl]
          have : S.looks[i.toNat]? = Q[i.toNat - P.length]? := by
            rw [e0, List.getElem?_append_right (by omega)]
          rw [List.getElem?_eq_getElem hl] at this
          exact List.mem_of_getElem? this.symm
        have := hQs _ e
        omega
    show ((f i.toNat : Nat) : Int) = i
    rw [f3 _ hp]
    omega
theorem wSum_app (W : List Int) (x : Int) (ws : List Int) : ∀ n : Nat, n ≤ W.length → wSum (W ++ [x]) ws n = wSum W ws n
  | 0, _ => rfl
  | n + 1, h => by
    unfold wSum
    rw [wSum_app W x ws n (by omega)]
    have : (W ++ [x]).getD n 0 = W.getD n 0 := by
      simp [List.getD, List.getElem?_append_left (by omega : n < W.length)]
    rw [this]
theorem late_worth {S : Sky} (v : Valid S) {now worth : Int} {rs : List Raw} {φ : Int → Int} (h : Emb S (S.late worth rs) now φ) {p : List Int} (hp : ∀ i ∈ p, S.has i) : (S.late worth rs).worth (p.map φ) = S.worth p := by
  unfold Sky.worth
  rw [h.wishes hp]
  show wSum (S.worths ++ [worth]) (p.map S.wish) (S.worths ++ [worth]).length = _
  rw [List.length_append, List.length_singleton]
  have e : wSum (S.worths ++ [worth]) (p.map S.wish) (S.worths.length + 1) = wSum (S.worths ++ [worth]) (p.map S.wish) S.worths.length + if ((S.worths.length : Nat) : Int) ∈ p.map S.wish then (S.worths ++ [worth]).getD S.worths.length 0 else 0 := rfl
  rw [e, wSum_app _ _ _ _ (Nat.le_refl _), if_neg, Int.add_zero]
  · intro hm
    obtain ⟨i, hi, e⟩ := List.mem_map.mp hm
    have := (wish_in v (hp i hi)).2
    omega
/-! ### less ears -/
def gap (a b : Int) (e : Ear) : Int := e.r * max 0 (min b e.l - max a e.f)
theorem foldl_sum {α : Type} (g : α → Int) : ∀ (l : List α) (c : Int), l.foldl (fun acc e => acc + g e) c = c + (l.map g).sum
  | [], c => by simp
  | x :: l, c => by
    rw [List.foldl_cons, foldl_sum g l, List.map_cons, List.sum_cons]
    omega
theorem eLoss_sum (es : List Ear) (a b : Int) : eLoss es a b = (es.map (gap a b)).sum := by
  unfold eLoss
  have := foldl_sum (gap a b) es 0
  rw [Int.zero_add] at this
  exact this
theorem gap_nn {e : Ear} (h : 1 ≤ e.r) (a b : Int) : 0 ≤ gap a b e := Int.mul_nonneg (by omega) (by omega)
theorem gap_0 {e : Ear} {a b : Int} (h : b ≤ e.f) : gap a b e = 0 := by
  unfold gap
  have : max 0 (min b e.l - max a e.f) = 0 := by omega
  rw [this, Int.mul_zero]
structure Less (S S' : Sky) (now : Int) : Prop where
  looks : S'.looks = S.looks
  worths : S'.worths = S.worths
  cap : S'.cap = S.cap
  turn : S'.turn = S.turn
  le : ∀ a b, S'.loss a b ≤ S.loss a b
  eq : ∀ a b, b ≤ now → S'.loss a b = S.loss a b
  sub : S'.ears.Sublist S.ears
def Sky.lose (S : Sky) (e : Nat) : Sky := ⟨S.looks, S.worths, S.ears.take e ++ S.ears.drop (e + 1), S.cap, S.turn⟩
theorem lose_less {S : Sky} (v : Valid S) {e : Nat} (he : e < S.ears.length) {now : Int} (hf : now ≤ S.ears[e].f) : Less S (S.lose e) now := by
  have es : S.ears = S.ears.take e ++ S.ears[e] :: S.ears.drop (e + 1) := by
    rw [← List.drop_eq_getElem_cons he, List.take_append_drop]
  have key : ∀ a b, S.loss a b = (S.lose e).loss a b + gap a b S.ears[e] := fun a b => by
    unfold Sky.loss
    rw [eLoss_sum, eLoss_sum]
    conv => lhs; rw [es]
    show _ = ((S.ears.take e ++ S.ears.drop (e + 1)).map (gap a b)).sum + _
    simp only [List.map_append, List.map_cons, List.sum_append, List.sum_cons]
    omega
  have nn := fun a b => gap_nn (v.er _ (List.getElem_mem he)).2.1 a b
  refine ⟨rfl, rfl, rfl, rfl, fun a b => ?_, fun a b h => ?_, ?_⟩
  · have := key a b
    have := nn a b
    omega
  · have h1 := key a b
    have h2 : gap a b S.ears[e] = 0 := gap_0 (by omega)
    omega
  · conv => rhs; rw [es]
    exact List.Sublist.append (List.Sublist.refl _) (List.sublist_cons_self _ _)
theorem Less.valid {S S' : Sky} {now : Int} (h : Less S S' now) (v : Valid S) : Valid S' :=
  ⟨by rw [h.worths]; exact v.nw, by rw [h.worths]; exact v.wr, by rw [h.looks]; exact v.nl, by rw [h.looks, h.worths]; exact v.lk, by rw [h.looks]; exact v.srt, Nat.le_trans h.sub.length_le v.ne, fun e he => v.er e (h.sub.subset he), by rw [h.cap]; exact v.cp, by rw [h.turn]; exact v.tn⟩
theorem Less.at {S S' : Sky} {now : Int} (h : Less S S' now) (i : Int) : S'.at i = S.at i := by unfold Sky.at; rw [h.looks]
theorem Less.has {S S' : Sky} {now : Int} (h : Less S S' now) (i : Int) : S'.has i ↔ S.has i := by unfold Sky.has; rw [h.looks]
theorem Less.endOf {S S' : Sky} {now : Int} (h : Less S S' now) (i : Int) : S'.endOf i = S.endOf i := by unfold Sky.endOf; rw [h.at]
theorem Less.follows {S S' : Sky} {now : Int} (h : Less S S' now) (i j : Int) : S'.follows i j = S.follows i j := by
  unfold Sky.follows Sky.turning
  rw [h.endOf, h.at, h.at, h.turn]
theorem Less.wish {S S' : Sky} {now : Int} (h : Less S S' now) : S'.wish = S.wish := by
  funext i
  unfold Sky.wish
  rw [h.at]
theorem Less.stored {S S' : Sky} {now : Int} (h : Less S S' now) (l : Option Int) {m m' : Int} (hm : m ≤ m') (t : Int) : S.stored l m t ≤ S'.stored l m' t := by
  cases l with
  | none => exact Int.le_refl _
  | some i =>
    show max 0 (m - S.loss (S.endOf i) t) ≤ max 0 (m' - S'.loss (S'.endOf i) t)
    rw [h.endOf]
    have := h.le (S.endOf i) t
    omega
/-- a plan with less ears is a plan -/
theorem Less.plan {S S' : Sky} {now : Int} (h : Less S S' now) (p : List Int) : S'.isPlan p = true → S.isPlan p = true ∧ S.amt p ≤ S'.amt p := by
  refine snoc_ind (P := fun p => S'.isPlan p = true → S.isPlan p = true ∧ S.amt p ≤ S'.amt p) ?_ ?_ p
  · intro _; exact ⟨rfl, Int.le_refl _⟩
  · intro p j ih h1
    obtain ⟨a1, a2, a3, a4, a5⟩ := isPlan_snoc.mp h1
    obtain ⟨i1, i2⟩ := ih a1
    have z1 := h.stored p.getLast? i2 (S.at j).s
    have z2 := h.stored p.getLast? i2 ((S.at j).s + (S.at j).n)
    have e1 := amt_snoc h1
    unfold Sky.behind at e1 a5
    rw [h.at, h.cap] at e1
    have hc : ¬ S.cap < S'.stored p.getLast? (S'.amt p) (S.at j).s + (S.at j).z := by
      intro z
      rw [if_pos z] at e1
      cases e1
    rw [if_neg hc] at e1
    have hc2 : ¬ S.cap < S.stored p.getLast? (S.amt p) (S.at j).s + (S.at j).z := by omega
    have e2 : S.isPlan (p ++ [j]) = true := by
      refine isPlan_snoc.mpr ⟨i1, a2, by rw [← h.wish]; exact a3, fun l hl => by rw [← h.follows]; exact a4 l hl, ?_⟩
      unfold Sky.behind
      rw [if_neg hc2]
      rfl
    refine ⟨e2, ?_⟩
    have e3 := amt_snoc e2
    unfold Sky.behind at e3
    rw [if_neg hc2] at e3
    have q1 := Option.some.inj e1
    have q2 := Option.some.inj e3
    omega
theorem turning_nn {S : Sky} (v : Valid S) (i j : Int) : 0 ≤ S.turning i j := by
  unfold Sky.turning
  have h1 := v.tn
  have : -(if (S.at j).a - (S.at i).a < 0 then -((S.at j).a - (S.at i).a) else (S.at j).a - (S.at i).a) / S.turn ≤ 0 := by
    have := Int.ediv_le_ediv (c := S.turn) (by omega) (show -(if (S.at j).a - (S.at i).a < 0 then -((S.at j).a - (S.at i).a) else (S.at j).a - (S.at i).a) ≤ 0 by split <;> omega)
    rw [Int.zero_ediv] at this
    exact this
  omega
/-- what has begun stays -/
theorem Less.begun {S S' : Sky} {now : Int} (v : Valid S) (h : Less S S' now) (p : List Int) : S.isPlan p = true → (∀ i ∈ p, (S.at i).s < now) → S'.isPlan p = true ∧ ((∀ l, p.getLast? = some l → S.endOf l ≤ now) → S'.amt p = S.amt p) := by
  refine snoc_ind (P := fun p => S.isPlan p = true → (∀ i ∈ p, (S.at i).s < now) → S'.isPlan p = true ∧ ((∀ l, p.getLast? = some l → S.endOf l ≤ now) → S'.amt p = S.amt p)) ?_ ?_ p
  · intro _ _; exact ⟨rfl, fun _ => rfl⟩
  · intro p j ih h1 hs
    obtain ⟨a1, a2, a3, a4, a5⟩ := isPlan_snoc.mp h1
    obtain ⟨i1, i2⟩ := ih a1 fun i hi => hs i (List.mem_append.mpr (.inl hi))
    have hj := hs j (by simp)
    have ea : S'.amt p = S.amt p := i2 fun l hl => by
      have := of_decide_eq_true (a4 l hl)
      have := turning_nn v l j
      omega
    have st : ∀ t, t ≤ now → S'.stored p.getLast? (S'.amt p) t = S.stored p.getLast? (S.amt p) t := fun t ht => by
      rw [ea]
      cases p.getLast? with
      | none => rfl
      | some i =>
        show max 0 (S.amt p - S'.loss (S'.endOf i) t) = max 0 (S.amt p - S.loss (S.endOf i) t)
        rw [h.endOf, h.eq _ _ ht]
    have hc : ¬ S.cap < S.stored p.getLast? (S.amt p) (S.at j).s + (S.at j).z := by
      intro z
      unfold Sky.behind at a5
      rw [if_pos z] at a5
      cases a5
    have e2 : S'.isPlan (p ++ [j]) = true := by
      refine isPlan_snoc.mpr ⟨i1, a2, by rw [h.wish]; exact a3, fun l hl => by rw [h.follows]; exact a4 l hl, ?_⟩
      unfold Sky.behind
      rw [h.at, h.cap, st _ (by omega), if_neg hc]
      rfl
    refine ⟨e2, fun hl => ?_⟩
    have he := hl j (by simp)
    have e1 := amt_snoc h1
    have e3 := amt_snoc e2
    unfold Sky.behind at e1 e3
    rw [if_neg hc] at e1
    unfold Sky.endOf at he
    rw [h.at, h.cap, st _ (by omega), st _ he, if_neg hc] at e3
    rw [e1] at e3
    exact (Option.some.inj e3).symm
theorem Less.ext {S S' : Sky} {now : Int} (h : Less S S' now) {begun p : List Int} (e : Ext S' now begun p) : Ext S now begun p := by
  obtain ⟨q, rfl, h1, h2⟩ := e
  exact ⟨q, rfl, (h.plan _ h1).1, fun i hi => ⟨(h.has i).mp (h2 i hi).1, by rw [← h.at]; exact (h2 i hi).2⟩⟩
theorem Less.worth {S S' : Sky} {now : Int} (h : Less S S' now) (p : List Int) : S'.worth p = S.worth p := by
  unfold Sky.worth
  rw [h.worths, h.wish]
theorem Less.keeps {S S' : Sky} {now : Int} (h : Less S S' now) (p prom : List Int) : S'.keeps p prom = S.keeps p prom := by
  unfold Sky.keeps
  rw [h.wish]
end Sk
set_option Elab.async false
set_option linter.all false
set_option maxRecDepth 100000
set_option maxHeartbeats 4000000
/-! States and consoles as data. -/
namespace Sk
open PySem L2 Dl
theorem plain_map {α : Type} {f : α → PyData} (h : ∀ x, plain (f x) = true) : ∀ l : List α, plainAll (l.map f) = true
  | [] => rfl
  | x :: l => by
    show (plain (f x) && plainAll (l.map f)) = true
    rw [h x, plain_map h l]; rfl
theorem noO_map {α : Type} {f : α → PyData} (h : ∀ x, noO (f x) = true) : ∀ l : List α, noOA (l.map f) = true
  | [] => rfl
  | x :: l => by
    show (noO (f x) && noOA (l.map f)) = true
    rw [h x, noO_map h l]; rfl
theorem noOA_app : ∀ a b : List PyData, noOA (a ++ b) = (noOA a && noOA b)
  | [], b => by simp [noOA]
  | x :: a, b => by
    show (noO x && noOA (a ++ b)) = ((noO x && noOA a) && noOA b)
    rw [noOA_app a b, Bool.and_assoc]
theorem noOA_take : ∀ (a : List PyData) (n : Nat), noOA a = true → noOA (a.take n) = true
  | [], n, _ => by simp [noOA]
  | x :: a, 0, _ => rfl
  | x :: a, n + 1, h => by
    obtain ⟨h1, h2⟩ := Bool.and_eq_true_iff.mp (show (noO x && noOA a) = true from h)
    show (noO x && noOA (a.take n)) = true
    rw [h1, noOA_take a n h2]; rfl
theorem noOA_mem : ∀ {a : List PyData} {d : PyData}, noOA a = true → d ∈ a → noO d = true
  | x :: a, d, h, hm => by
    obtain ⟨h1, h2⟩ := Bool.and_eq_true_iff.mp (show (noO x && noOA a) = true from h)
    rcases List.mem_cons.mp hm with rfl | z
    · exact h1
    · exact noOA_mem h2 z
theorem plain_S (S : Sky) : plain (encS' S) = true := by
  show (plainAll (S.looks.map encL) && (plainAll (S.worths.map .int) && (plainAll (S.ears.map encE) && true))) = true
  rw [plain_map (fun _ => rfl), plain_map (fun _ => rfl), plain_map (fun _ => rfl)]; rfl
theorem plain_R (p : List Int) : plain (encR p) = true := plain_ints p
theorem noO_S (S : Sky) : noO (encS' S) = true := by
  show (noOA (S.looks.map encL) && (noOA (S.worths.map .int) && (noOA (S.ears.map encE) && true))) = true
  rw [noO_map (fun _ => rfl), noO_map (fun _ => rfl), noO_map (fun _ => rfl)]; rfl
theorem noO_R (p : List Int) : noO (encR p) = true := noO_map (fun _ => rfl) p
def stK (x : Stt) : List (PyData × PyData) := [(.str "sky", encS' x.S), (.str "time", .int x.now), (.str "begun", encR x.begun), (.str "promises", encR x.prom), (.str "worth", .int (x.S.worth x.plan)), (.str "plan", encR x.plan)]
def stA (x : Stt) : PyData := tagS (stK x)
theorem noO_st (x : Stt) : noO (stA x) = true := by
  show (true && true && (true && noO (encS' x.S) && (true && true && (true && noO (encR x.begun) && (true && noO (encR x.prom) && (true && true && (true && noO (encR x.plan) && true))))))) = true
  rw [noO_S, noO_R, noO_R, noO_R]; rfl
@[simp] theorem fS_sky (x : Stt) : fldS "sky" (stA x) = some (encS' x.S) := rfl
@[simp] theorem fS_time (x : Stt) : fldS "time" (stA x) = some (.int x.now) := rfl
@[simp] theorem fS_begun (x : Stt) : fldS "begun" (stA x) = some (encR x.begun) := rfl
@[simp] theorem fS_prom (x : Stt) : fldS "promises" (stA x) = some (encR x.prom) := rfl
@[simp] theorem fS_worth (x : Stt) : fldS "worth" (stA x) = some (.int (x.S.worth x.plan)) := rfl
@[simp] theorem fS_plan (x : Stt) : fldS "plan" (stA x) = some (encR x.plan) := rfl
theorem best_of {S : Sky} (v : Valid S) {now : Int} {begun prom p : List Int} (b : Begun S begun) (hm : prom.length ≤ 1000) (h : IsBest S now begun prom p) : f_best_keeping [encS' S, encR prom, .int now, encR begun] = some (.ok (.tuple [.int (S.worth p), encR p])) := by
  rcases best_keeping_r v now b hm with ⟨_, h2⟩ | ⟨q, h1, h2⟩
  · exact (h2 p h.ext h.keeps).elim
  · rw [h.uniq h2]; exact h1
theorem best_some {S : Sky} (v : Valid S) {now : Int} {begun prom : List Int} (b : Begun S begun) (hm : prom.length ≤ 1000) (h : ∃ p, Ext S now begun p ∧ S.keeps p prom = true) : ∃ p, IsBest S now begun prom p := by
  rcases best_keeping_r v now b hm with ⟨_, h2⟩ | ⟨q, h1, h2⟩
  · obtain ⟨p, a, c⟩ := h
    exact (h2 p a c).elim
  · exact ⟨q, h2⟩
theorem mkS_e {x : Stt} (h : Inv x) : mkS 5 f_State___init__ [encS' x.S, .int x.now, encR x.begun, encR x.prom] = some (stA x) := by
  have e1 := best_of h.v h.b (by have := h.short; omega) h.best
  have e2 : gN 4 (swP f_best_keeping) [encS' x.S, encR x.prom, .int x.now, encR x.begun] = some (.tuple [.int (x.S.worth x.plan), encR x.plan]) := by
    refine gN_e (n := 4) ?_ rfl
    unfold swP
    have p1 : plainAll [encS' x.S, encR x.prom, .int x.now, encR x.begun] = true := by
      show (plain (encS' x.S) && (plain (encR x.prom) && (true && (plain (encR x.begun) && true)))) = true
      rw [plain_S, plain_R, plain_R]; rfl
    rw [if_pos p1, e1]
    have p2 : plain (.tuple [.int (x.S.worth x.plan), encR x.plan]) = true := by
      show (true && (plain (encR x.plan) && true)) = true
      rw [plain_R]; rfl
    exact if_pos p2
  have e3 : f_State___init__ [] [encS' x.S, .int x.now, encR x.begun, encR x.prom] = some (.ok .none (stK x)) := by
    unfold f_State___init__ h_State___init__ runM
    show (sq _ _ [some (tagO []), some (encS' x.S), some (.int x.now), some (encR x.begun), some (encR x.prom)]).bind outRm = _
    have s1 : stFld 0 "sky" (vr 1) [some (tagO []), some (encS' x.S), some (.int x.now), some (encR x.begun), some (encR x.prom)] = some (.nx [some (tagO [(.str "sky", encS' x.S)]), some (encS' x.S), some (.int x.now), some (encR x.begun), some (encR x.prom)]) := rfl
    have s2 : stFld 0 "time" (vr 2) [some (tagO [(.str "sky", encS' x.S)]), some (encS' x.S), some (.int x.now), some (encR x.begun), some (encR x.prom)] = some (.nx [some (tagO [(.str "sky", encS' x.S), (.str "time", .int x.now)]), some (encS' x.S), some (.int x.now), some (encR x.begun), some (encR x.prom)]) := rfl
    have s3 : stFld 0 "begun" (vr 3) [some (tagO [(.str "sky", encS' x.S), (.str "time", .int x.now)]), some (encS' x.S), some (.int x.now), some (encR x.begun), some (encR x.prom)] = some (.nx [some (tagO [(.str "sky", encS' x.S), (.str "time", .int x.now), (.str "begun", encR x.begun)]), some (encS' x.S), some (.int x.now), some (encR x.begun), some (encR x.prom)]) := rfl
    have s4 : stFld 0 "promises" (vr 4) [some (tagO [(.str "sky", encS' x.S), (.str "time", .int x.now), (.str "begun", encR x.begun)]), some (encS' x.S), some (.int x.now), some (encR x.begun), some (encR x.prom)] = some (.nx [some (tagO [(.str "sky", encS' x.S), (.str "time", .int x.now), (.str "begun", encR x.begun), (.str "promises", encR x.prom)]), some (encS' x.S), some (.int x.now), some (encR x.begun), some (encR x.prom)]) := rfl
    have s5 : stFld2 0 "worth" "plan" (bA (gN 4 (swP f_best_keeping)) (aCat 2 2 (aCons (vr 1) (aCons (vr 4) aNil)) (aCons (vr 2) (aCons (vr 3) aNil)))) [some (tagO [(.str "sky", encS' x.S), (.str "time", .int x.now), (.str "begun", encR x.begun), (.str "promises", encR x.prom)]), some (encS' x.S), some (.int x.now), some (encR x.begun), some (encR x.prom)] = some (.nx [some (tagO (stK x)), some (encS' x.S), some (.int x.now), some (encR x.begun), some (encR x.prom)]) := by
      have z : bA (gN 4 (swP f_best_keeping)) (aCat 2 2 (aCons (vr 1) (aCons (vr 4) aNil)) (aCons (vr 2) (aCons (vr 3) aNil))) [some (tagO [(.str "sky", encS' x.S), (.str "time", .int x.now), (.str "begun", encR x.begun), (.str "promises", encR x.prom)]), some (encS' x.S), some (.int x.now), some (encR x.begun), some (encR x.prom)] = some (.tuple [.int (x.S.worth x.plan), encR x.plan]) := by
        show gN 4 (swP f_best_keeping) [encS' x.S, encR x.prom, .int x.now, encR x.begun] = _
        exact e2
      unfold stFld2
      rw [z]
      rfl
    rw [sq_e, s1, Option.bind_some]
    show (sq _ _ _).bind outRm = _
    rw [sq_e, s2, Option.bind_some]
    show (sq _ _ _).bind outRm = _
    rw [sq_e, s3, Option.bind_some]
    show (sq _ _ _).bind outRm = _
    rw [sq_e, s4, Option.bind_some]
    show (stFld2 _ _ _ _ _).bind outRm = _
    rw [s5]
    rfl
  unfold mkS
  have p1 : plainAll [encS' x.S, .int x.now, encR x.begun, encR x.prom] = true := by
    show (plain (encS' x.S) && (true && (plain (encR x.begun) && (plain (encR x.prom) && true)))) = true
    rw [plain_S, plain_R, plain_R]; rfl
  have p2 : plainK (stK x) = true := by
    show (plain (encS' x.S) && (true && (plain (encR x.begun) && (plain (encR x.prom) && (true && (plain (encR x.plan) && true)))))) = true
    rw [plain_S, plain_R, plain_R, plain_R]; rfl
  rw [if_pos ⟨rfl, p1⟩, e3]
  exact if_pos p2
/-! ### consoles -/
def conK (L : List PyData) (n : Int) (E : List PyData) : List (PyData × PyData) := [(.str "_states", .list L), (.str "_at", .int n), (.str "_entries", .list E)]
def Con (n : Nat) (x : Stt) (kvs : List (PyData × PyData)) : Prop := ∃ L E, kvs = conK L n E ∧ L.length = n + 1 ∧ L[n]? = some (stA x) ∧ noOA L = true ∧ noOA E = true ∧ E.length = n
theorem cut_all {L : List PyData} {n : Nat} (h : L.length = n) : cutD L none (some (n : Int)) = L := by
  subst h
  unfold cutD
  rw [HT.sIx_nat, HT.sIx_none]
  simp
theorem state_e {n : Nat} {x : Stt} {kvs : List (PyData × PyData)} (h : Con n x kvs) : f_Console__state [tagO kvs] = some (.ok (stA x)) := by
  obtain ⟨L, E, rfl, h1, h2, h3, h4, h5⟩ := h
  unfold f_Console__state h_Console__state runP startD
  have e1 : fldO "_states" (tagO (conK L n E)) = some (.list L) := rfl
  have e2 : fldO "_at" (tagO (conK L n E)) = some (.int n) := rfl
  have e3 : ixD (.list L) (.int n) = some (stA x) := ixD_l h2
  simp [e1, e2, e3]
theorem isD (kvs : List (PyData × PyData)) : isDict (tagO kvs) = true := rfl
@[simp] theorem gOwn_e (ow : List Nat) (f : Dt → Option PyData) (δ : Dt) : gOwn ow f δ = (f δ).bind fun d => if noO d && ownI ow δ then some d else none := rfl
theorem gOwn_of {ow : List Nat} {f : Dt → Option PyData} {δ : Dt} {d : PyData} (h : f δ = some d) (h1 : noO d = true) (h2 : ownI ow δ = true) : gOwn ow f δ = some d := by
  rw [gOwn_e, h, Option.bind_some, h1, h2]
  rfl
theorem own0 {kvs : List (PyData × PyData)} {δ : Dt} : ownI [0] (some (tagO kvs) :: δ) = true := rfl
theorem fState {n : Nat} {x : Stt} {kvs : List (PyData × PyData)} (h : Con n x kvs) {fo : Dt → Option PyData} {δ : Dt} (hf : fo δ = some (tagO kvs)) : fMeth "_state" f_Console__state fo δ = some (stA x) := by
  unfold fMeth
  rw [hf, Option.bind_some]
  have e := state_e h
  obtain ⟨L, E, rfl, _⟩ := h
  have z : noF "_state" (conK L n E) = true := rfl
  show (if noF "_state" (conK L n E) = true then okOf f_Console__state [tagO (conK L n E)] else none) = _
  rw [if_pos z]
  unfold okOf
  rw [e]
theorem enter_e {n : Nat} {x y : Stt} {kvs : List (PyData × PyData)} (h : Con n x kvs) (hn : n ≤ 1000) {d : PyData} (hd : noO d = true) : ∃ kvs', f_Console__enter kvs [stA y, d] = some (.ok .none kvs') ∧ Con (n + 1) y kvs' := by
  obtain ⟨L, E, rfl, h1, h2, h3, h4, h5⟩ := h
  have n1 : noOA (L ++ [stA y]) = true := by
    rw [noOA_app, h3]
    show (true && (noO (stA y) && true)) = true
    rw [noO_st]; rfl
  have n2 : noOA (E ++ [d]) = true := by
    rw [noOA_app, h4]
    show (true && (noO d && true)) = true
    rw [hd]; rfl
  refine ⟨conK (L ++ [stA y]) ((n + 1 : Nat) : Int) (E ++ [d]), ?_, _, _, rfl, by simp [h1], ?_, n1, n2, by simp [h5]⟩
  · unfold f_Console__enter h_Console__enter runM
    show (sq _ _ [some (tagO (conK L n E)), some (stA y), some d]).bind outRm = _
    have e1 : gOwn [0] (b2 catL (asL (slD (b1 (fldO "_states") (vr 0)) (tPt none) (tPt (some (b2 addI (b1 (fldO "_at") (vr 0)) (cD (.int 1))))))) (asL (bA (fun l => (szOk l).map .list) (aCons (vr 1) aNil)))) [some (tagO (conK L n E)), some (stA y), some d] = some (.list (L ++ [stA y])) := by
      refine gOwn_of ?_ n1 rfl
      have z1 : slD (b1 (fldO "_states") (vr 0)) (tPt none) (tPt (some (b2 addI (b1 (fldO "_at") (vr 0)) (cD (.int 1))))) [some (tagO (conK L n E)), some (stA y), some d] = some (.list L) := by
        show some (PyData.list (cutD L none (some ((n : Int) + 1)))) = _
        have := cut_all (L := L) (n := n + 1) h1
        rw [show ((n : Int) + 1) = ((n + 1 : Nat) : Int) by omega, this]
      have z2 : bA (fun l => (szOk l).map .list) (aCons (vr 1) aNil) [some (tagO (conK L n E)), some (stA y), some d] = some (.list [stA y]) := by
        show (szOk [stA y]).map PyData.list = _
        rw [szOk_1]; rfl
      rw [b2_e, asL_e _ _ z1, asL_e _ _ z2, Option.bind_some, Option.bind_some, catL_e (by simp; omega)]
    have s1 : stFld 0 "_states" (gOwn [0] (b2 catL (asL (slD (b1 (fldO "_states") (vr 0)) (tPt none) (tPt (some (b2 addI (b1 (fldO "_at") (vr 0)) (cD (.int 1))))))) (asL (bA (fun l => (szOk l).map .list) (aCons (vr 1) aNil))))) [some (tagO (conK L n E)), some (stA y), some d] = some (.nx [some (tagO (conK (L ++ [stA y]) n E)), some (stA y), some d]) := by
      unfold stFld
      rw [e1]
      rfl
    have s2 : stFldAdd 0 "_at" (cD (.int 1)) [some (tagO (conK (L ++ [stA y]) n E)), some (stA y), some d] = some (.nx [some (tagO (conK (L ++ [stA y]) ((n + 1 : Nat) : Int) E)), some (stA y), some d]) := by
      have z : ((n : Int) + 1) = ((n + 1 : Nat) : Int) := by omega
      rw [← z]
      rfl
    have e3 : gOwn [0] (b2 catL (b1 (fldO "_entries") (vr 0)) (asL (bA (fun l => (szOk l).map .list) (aCons (vr 2) aNil)))) [some (tagO (conK (L ++ [stA y]) ((n + 1 : Nat) : Int) E)), some (stA y), some d] = some (.list (E ++ [d])) := by
      refine gOwn_of ?_ n2 rfl
      have z2 : bA (fun l => (szOk l).map .list) (aCons (vr 2) aNil) [some (tagO (conK (L ++ [stA y]) ((n + 1 : Nat) : Int) E)), some (stA y), some d] = some (.list [d]) := by
        show (szOk [d]).map PyData.list = _
        rw [szOk_1]; rfl
      rw [b2_e, asL_e _ _ z2]
      show catL (.list E) (.list [d]) = _
      rw [catL_e (by simp; omega)]
    rw [sq_e, s1, Option.bind_some]
    show (sq _ _ _).bind outRm = _
    rw [sq_e, s2, Option.bind_some]
    show (stFld _ _ _ _).bind outRm = _
    have s3 : stFld 0 "_entries" (gOwn [0] (b2 catL (b1 (fldO "_entries") (vr 0)) (asL (bA (fun l => (szOk l).map .list) (aCons (vr 2) aNil))))) [some (tagO (conK (L ++ [stA y]) ((n + 1 : Nat) : Int) E)), some (stA y), some d] = some (.nx [some (tagO (conK (L ++ [stA y]) ((n + 1 : Nat) : Int) (E ++ [d]))), some (stA y), some d]) := by
      unfold stFld
      rw [e3]
      rfl
    rw [s3]
    rfl
  · rw [List.getElem?_append_right (by omega), h1]
    simp
theorem enter_st {n : Nat} {x y : Stt} {kvs : List (PyData × PyData)} (h : Con n x kvs) (hn : n ≤ 1000) {d : PyData} (hd : noO d = true) {f : Dt → Option (List PyData)} {δ : Dt} (hf : f (some (tagO kvs) :: δ) = some [stA y, d]) : ∃ kvs', stE (eMeth 0 "_enter" 3 f_Console__enter f) (some (tagO kvs) :: δ) = some (.nx (some (tagO kvs') :: δ)) ∧ Con (n + 1) y kvs' := by
  obtain ⟨kvs', h1, h2⟩ := enter_e (y := y) h hn hd
  refine ⟨kvs', ?_, h2⟩
  obtain ⟨L, E, rfl, _⟩ := h
  unfold stE eMeth
  show (if noF "_enter" (conK L n E) = true then (f (some (tagO (conK L n E)) :: δ)).bind (fun ds => if ds.length + 1 = 3 then (f_Console__enter (conK L n E) ds).map _ else none) else none).map _ = _
  rw [if_pos (show noF "_enter" (conK L n E) = true from rfl), hf, Option.bind_some, if_pos (show [stA y, d].length + 1 = 3 from rfl), h1]
  rfl
end Sk
set_option Elab.async false
set_option linter.all false
set_option maxRecDepth 100000
set_option maxHeartbeats 4000000
/-! What a console does: begin, go, wish. -/
namespace Sk
open PySem L2 Dl
theorem star_e {f : Dt → Option PyData} {δ : Dt} {l : List PyData} (h : f δ = some (.list l)) (hl : l.length ≤ 16777216) : asL (starD f) δ = some (.list l) := by
  refine asL_e _ _ ?_
  unfold starD
  rw [h, Option.bind_some]
  show (szOk l).map PyData.list = _
  rw [szOk_e hl]; rfl
theorem copied_e {S : Sky} (v : Valid S) : f_copied [encS' S] = some (.ok (encS' S)) := by
  have h1 := v.nl
  have h2 := v.nw
  have h3 := v.ne
  unfold f_copied h_copied runP
  show (sq _ _ [some (encS' S), none, none, none, none, none]).bind outRs = _
  have e0 : stG (vr 0) (gT 5 (gsCons (setD 1) (gsCons (setD 2) (gsCons (setD 3) (gsCons (setD 4) (gsCons (setD 5) gsNil)))))) [some (encS' S), none, none, none, none, none] = some (.nx [some (encS' S), some (.list (S.looks.map encL)), some (.list (S.worths.map .int)), some (.list (S.ears.map encE)), some (.int S.cap), some (.int S.turn)]) := by
    simp [encS']
  rw [sq_e, e0, Option.bind_some]
  show (stRet _ _).bind outRs = _
  rw [stRet_e, bA_e, aCons_e, star_e (f := vr 1) rfl (by simp; omega), aCons_e, star_e (f := vr 2) rfl (by simp; omega), aCons_e, star_e (f := vr 3) rfl (by simp; omega), aCons_e, aCons_e]
  simp only [vr_e, aNil_e, Option.bind_some, Option.map_some]
  show (((szOk [PyData.list (S.looks.map encL), PyData.list (S.worths.map .int), PyData.list (S.ears.map encE), .int S.cap, .int S.turn]).map PyData.tuple).map _).bind outRs = _
  rw [szOk_5]; rfl
theorem init_e {S : Sky} (c : Chk S) : ∃ kvs p, f_Console___init__ [] [encS' S] = some (.ok .none kvs) ∧ Con 0 ⟨S, 0, [], [], p⟩ kvs ∧ Inv ⟨S, 0, [], [], p⟩ := by
  have b : Begun S [] := ⟨rfl, fun i hi => by cases hi⟩
  obtain ⟨p, hp⟩ := best_some c.v (now := 0) (prom := []) b (by simp) ⟨[], Ext.base rfl, rfl⟩
  have inv : Inv ⟨S, 0, [], [], p⟩ := ⟨c.v, ⟨Int.le_refl _, by show (0 : Int) ≤ 200; decide⟩, b, (fun i hi => by cases hi), List.Pairwise.nil, (fun i hi => by cases hi), hp⟩
  refine ⟨conK [stA ⟨S, 0, [], [], p⟩] 0 [], p, ?_, ⟨_, _, rfl, rfl, rfl, ?_, rfl, rfl⟩, inv⟩
  · have hc : f_check_sky [encS' S] = some (.ok .none) := by
      rcases check_sky_e S with ⟨_, h⟩ | ⟨h, _⟩
      · exact h
      · exact absurd c h
    unfold f_Console___init__ h_Console___init__ runM
    show (sq _ _ [some (tagO []), some (encS' S)]).bind outRm = _
    have s1 : stE (eCall 1 f_check_sky (aCons (vr 1) aNil)) [some (tagO []), some (encS' S)] = some (.nx [some (tagO []), some (encS' S)]) := stE_ok (n := 1) (ds := [encS' S]) rfl rfl hc
    rw [sq_e, s1, Option.bind_some]
    show (sq _ _ _).bind outRm = _
    have a1 : bA (gN 1 f_copied) (aCons (vr 1) aNil) [some (tagO []), some (encS' S)] = some (encS' S) := by
      show gN 1 f_copied [encS' S] = _
      exact gN_e (n := 1) (copied_e c.v) rfl
    have a2 : asL (bA (fun l => (szOk l).map .list) aNil) [some (tagO []), some (encS' S)] = some (.list []) := asL_e _ _ (by simp)
    have a3 : bA (mkS 5 f_State___init__) (aCons (bA (gN 1 f_copied) (aCons (vr 1) aNil)) (aCons (cD (.int 0)) (aCons (asL (bA (fun l => (szOk l).map .list) aNil)) (aCons (asL (bA (fun l => (szOk l).map .list) aNil)) aNil)))) [some (tagO []), some (encS' S)] = some (stA ⟨S, 0, [], [], p⟩) := by
      rw [bA_e, aCons_e, a1, aCons_e, cD_e, aCons_e, a2, aCons_e, a2]
      exact mkS_e inv
    have a4 : bA (fun l => (szOk l).map .list) (aCons (bA (mkS 5 f_State___init__) (aCons (bA (gN 1 f_copied) (aCons (vr 1) aNil)) (aCons (cD (.int 0)) (aCons (asL (bA (fun l => (szOk l).map .list) aNil)) (aCons (asL (bA (fun l => (szOk l).map .list) aNil)) aNil))))) aNil) [some (tagO []), some (encS' S)] = some (.list [stA ⟨S, 0, [], [], p⟩]) := by
      rw [bA_e, aCons_e, a3]
      simp only [aNil_e, Option.bind_some, Option.map_some, szOk_1]
    have s2 : stFld 0 "_states" (asL (bA (fun l => (szOk l).map .list) (aCons (bA (mkS 5 f_State___init__) (aCons (bA (gN 1 f_copied) (aCons (vr 1) aNil)) (aCons (cD (.int 0)) (aCons (asL (bA (fun l => (szOk l).map .list) aNil)) (aCons (asL (bA (fun l => (szOk l).map .list) aNil)) aNil))))) aNil))) [some (tagO []), some (encS' S)] = some (.nx [some (tagO [(.str "_states", .list [stA ⟨S, 0, [], [], p⟩])]), some (encS' S)]) := by
      unfold stFld
      rw [asL_e _ _ a4]
      rfl
    rw [sq_e, s2, Option.bind_some]
    show (sq _ _ _).bind outRm = _
    have s3 : stFld 0 "_at" (cD (.int 0)) [some (tagO [(.str "_states", .list [stA ⟨S, 0, [], [], p⟩])]), some (encS' S)] = some (.nx [some (tagO [(.str "_states", .list [stA ⟨S, 0, [], [], p⟩]), (.str "_at", .int 0)]), some (encS' S)]) := rfl
    rw [sq_e, s3, Option.bind_some]
    show (stFld _ _ _ _).bind outRm = _
    have a5 : asL (bA (fun l => (szOk l).map .list) aNil) [some (tagO [(.str "_states", .list [stA ⟨S, 0, [], [], p⟩]), (.str "_at", .int 0)]), some (encS' S)] = some (.list []) := asL_e _ _ (by simp)
    unfold stFld
    rw [a5]
    rfl
  · show (noO (stA ⟨S, 0, [], [], p⟩) && true) = true
    rw [noO_st]; rfl
/-! ### go -/
theorem go_e {n : Nat} {x : Stt} {kvs : List (PyData × PyData)} (h : Con n x kvs) (hn : n ≤ 1000) (inv : Inv x) (t : Int) : (¬ (x.now ≤ t ∧ t ≤ 200) ∧ f_Console_go kvs [.int t] = some (.ex 3 kvs)) ∨ ((x.now ≤ t ∧ t ≤ 200) ∧ ∃ kvs' fresh, f_Console_go kvs [.int t] = some (.ok (.list fresh) kvs') ∧ Con (n + 1) (x.go t) kvs' ∧ Inv (x.go t)) := by
  have hst : gOwn [0] (fMeth "_state" f_Console__state (vr 0)) [some (tagO kvs), some (.int t), none, none, none, none] = some (stA x) := gOwn_of (fState h rfl) (noO_st x) rfl
  have s1 : stSet 2 (gOwn [0] (fMeth "_state" f_Console__state (vr 0))) [some (tagO kvs), some (.int t), none, none, none, none] = some (.nx [some (tagO kvs), some (.int t), some (stA x), none, none, none]) := by
    rw [stSet_e, hst]; rfl
  have a2 : tNotD (tB (bA (gN 3 f_is_within) (aCons (vr 1) (aCons (b1 (fldS "time") (vr 2)) (aCons (cD (.int 200)) aNil))))) [some (tagO kvs), some (.int t), some (stA x), none, none, none] = some (!decide (x.now ≤ t ∧ t ≤ 200)) := by
    simp
  unfold f_Console_go h_Console_go runM
  by_cases c : x.now ≤ t ∧ t ≤ 200
  · right
    have inv' := inv.go c.1 c.2
    have hh := (inv.best.ext.good inv.b.has)
    have hl := hh.short inv.v
    have a3 : cp_Console_go_1 [some (tagO kvs), some (.int t), some (stA x), none, none, none] = some (encR (x.go t).begun) := by
      unfold cp_Console_go_1
      show _ = some (PyData.list ((x.plan.filter fun i => decide ((x.S.at i).s < t)).map PyData.int))
      refine lcD_e (ds := x.plan.map .int) (by simp) (by simp; omega) ?_
      refine lc_map (f := PyData.int) _ _ x.plan fun i hi => ⟨[some (tagO kvs), some (.int t), some (stA x), none, some (.int i), none], by simp [wipeD], ?_, fun _ => by simp⟩
      simp [getL, ix_look (hh.has i hi), encL]
    have s3 : stSet 3 (asL cp_Console_go_1) [some (tagO kvs), some (.int t), some (stA x), none, none, none] = some (.nx [some (tagO kvs), some (.int t), some (stA x), some (encR (x.go t).begun), none, none]) := by
      rw [stSet_e, asL_e _ _ a3]; rfl
    obtain ⟨fresh, hf⟩ : ∃ fresh, slD (vr 3) (tPt (some (bA lenD (aCons (b1 (fldS "begun") (vr 2)) aNil)))) (tPt none) [some (tagO kvs), some (.int t), some (stA x), some (encR (x.go t).begun), none, none] = some (.list fresh) := ⟨_, rfl⟩
    have s4 : stSet 5 (asL (slD (vr 3) (tPt (some (bA lenD (aCons (b1 (fldS "begun") (vr 2)) aNil)))) (tPt none))) [some (tagO kvs), some (.int t), some (stA x), some (encR (x.go t).begun), none, none] = some (.nx [some (tagO kvs), some (.int t), some (stA x), some (encR (x.go t).begun), none, some (.list fresh)]) := by
      rw [stSet_e, asL_e _ _ hf]; rfl
    have a5 : (aCons (bA (mkS 5 f_State___init__) (aCons (b1 (fldS "sky") (vr 2)) (aCons (vr 1) (aCons (vr 3) (aCons (b1 (fldS "promises") (vr 2)) aNil))))) (aCons (bA (fun l => (szOk l).map .tuple) (aCons (cD (.str "go")) (aCons (vr 1) aNil))) aNil)) (some (tagO kvs) :: [some (.int t), some (stA x), some (encR (x.go t).begun), none, some (.list fresh)]) = some [stA (x.go t), .tuple [.str "go", .int t]] := by
      have z1 : bA (mkS 5 f_State___init__) (aCons (b1 (fldS "sky") (vr 2)) (aCons (vr 1) (aCons (vr 3) (aCons (b1 (fldS "promises") (vr 2)) aNil)))) (some (tagO kvs) :: [some (.int t), some (stA x), some (encR (x.go t).begun), none, some (.list fresh)]) = some (stA (x.go t)) := mkS_e inv'
      rw [aCons_e, z1]
      simp
    obtain ⟨kvs', s5, hc⟩ := enter_st (y := x.go t) h hn (d := .tuple [.str "go", .int t]) rfl a5
    refine ⟨c, kvs', fresh, ?_, hc, inv'⟩
    show (sq _ _ [some (tagO kvs), some (.int t), none, none, none, none]).bind outRm = _
    rw [sq_e, s1, Option.bind_some]
    show (sq _ _ _).bind outRm = _
    rw [sq_e, stIf_e, a2, Option.bind_some, decide_eq_true c, if_neg (by decide), stNx_e, Option.bind_some]
    show (sq _ _ _).bind outRm = _
    rw [sq_e, s3, Option.bind_some]
    show (sq _ _ _).bind outRm = _
    rw [sq_e, s4, Option.bind_some]
    show (sq _ _ _).bind outRm = _
    rw [sq_e, s5, Option.bind_some]
    rfl
  · left
    refine ⟨c, ?_⟩
    show (sq _ _ [some (tagO kvs), some (.int t), none, none, none, none]).bind outRm = _
    rw [sq_e, s1, Option.bind_some]
    show (sq _ _ _).bind outRm = _
    rw [sq_e, stIf_e, a2, Option.bind_some, decide_eq_false c, if_pos (by decide)]
    rfl
/-! ### wish -/
theorem stSetE_ok {i n : Nat} {g : List PyData → Option Rs} {f : Dt → Option (List PyData)} {δ : Dt} {ds : List PyData} {d : PyData} (hf : f δ = some ds) (hl : ds.length = n) (hg : g ds = some (.ok d)) : stSetE i (eCall n g f) δ = some (.nx (δ.set i (some d))) := by
  unfold stSetE eCall
  rw [hf, Option.bind_some, if_pos hl, hg]
  rfl
theorem stSetE_ex {i n : Nat} {g : List PyData → Option Rs} {f : Dt → Option (List PyData)} {δ : Dt} {ds : List PyData} {c : Nat} (hf : f δ = some ds) (hl : ds.length = n) (hg : g ds = some (.ex c)) : stSetE i (eCall n g f) δ = some (.ex c δ) := by
  unfold stSetE eCall
  rw [hf, Option.bind_some, if_pos hl, hg]
  rfl
theorem noO_W (rs : List Raw) : noO (.list (rs.map encW)) = true := noO_map (fun _ => rfl) rs
theorem late_inv {x : Stt} (inv : Inv x) {worth : Int} {rs : List Raw} (hr : ∀ r ∈ rs, x.now ≤ r.s) (v' : Valid (x.S.late worth rs)) : ∃ p, Inv ⟨x.S.late worth rs, x.now, x.begun, x.prom, p⟩ ∧ x.S.worth x.plan ≤ (x.S.late worth rs).worth p := by
  obtain ⟨φ, em⟩ := late_emb (worth := worth) inv.v hr
  have hb : x.begun.map φ = x.begun := map_fix fun i hi => em.fix i (inv.b.has i hi) (inv.bs i hi)
  have b' : Begun (x.S.late worth rs) x.begun := ⟨by rw [← hb]; exact (em.plan _ inv.b.pl inv.b.has).1, fun i hi => by
    have := (em.look i (inv.b.has i hi)).1
    rw [em.fix i (inv.b.has i hi) (inv.bs i hi)] at this
    exact this⟩
  have g := (inv.best.ext.good inv.b.has).has
  have e1 := em.ext inv.b.has inv.bs inv.best.ext
  have e2 : (x.S.late worth rs).keeps (x.plan.map φ) x.prom = true := by rw [em.keeps g]; exact inv.best.keeps
  obtain ⟨p, hp⟩ := best_some v' b' (prom := x.prom) (by have := inv.short; omega) ⟨_, e1, e2⟩
  refine ⟨p, ⟨v', inv.t, b', fun i hi => ?_, inv.ps, fun w hw => ?_, hp⟩, ?_⟩
  · have := (em.look i (inv.b.has i hi)).2
    rw [em.fix i (inv.b.has i hi) (inv.bs i hi)] at this
    show ((x.S.late worth rs).at i).s < x.now
    rw [this]
    exact inv.bs i hi
  · have := inv.pr w hw
    show 0 ≤ w ∧ w < ((x.S.worths ++ [worth]).length : Int)
    simp
    omega
  · have := (hp.top _ e1 e2).1
    rw [late_worth inv.v em g] at this
    exact this
theorem wish_e {n : Nat} {x : Stt} {kvs : List (PyData × PyData)} (h : Con n x kvs) (hn : n ≤ 1000) (inv : Inv x) (worth : Int) (rs : List Raw) (hrs : rs.length ≤ 1000) : (∃ c, c < 7 ∧ f_Console_wish kvs [.int worth, .list (rs.map encW)] = some (.ex c kvs)) ∨ ∃ kvs' w p, f_Console_wish kvs [.int worth, .list (rs.map encW)] = some (.ok (.int w) kvs') ∧ Con (n + 1) ⟨x.S.late worth rs, x.now, x.begun, x.prom, p⟩ kvs' ∧ Inv ⟨x.S.late worth rs, x.now, x.begun, x.prom, p⟩ ∧ x.S.worth x.plan ≤ (x.S.late worth rs).worth p := by
  have v1 := inv.v.nl
  have v2 := inv.v.nw
  have v3 := inv.v.ne
  have hst : gOwn [0] (fMeth "_state" f_Console__state (vr 0)) [some (tagO kvs), some (.int worth), some (.list (rs.map encW)), none, none] = some (stA x) := gOwn_of (fState h rfl) (noO_st x) rfl
  have s1 : stSet 3 (gOwn [0] (fMeth "_state" f_Console__state (vr 0))) [some (tagO kvs), some (.int worth), some (.list (rs.map encW)), none, none] = some (.nx [some (tagO kvs), some (.int worth), some (.list (rs.map encW)), some (stA x), none]) := by
    rw [stSet_e, hst]; rfl
  have a2 : aCat 3 1 (aCons (b1 (fldS "sky") (vr 3)) (aCons (vr 1) (aCons (vr 2) aNil))) (aCons (b1 (fldS "time") (vr 3)) aNil) [some (tagO kvs), some (.int worth), some (.list (rs.map encW)), some (stA x), none] = some [encS' x.S, .int worth, .list (rs.map encW), .int x.now] := rfl
  unfold f_Console_wish h_Console_wish runM
  rcases with_late_e x.S worth x.now rs (by omega) hrs (by omega) (by omega) with ⟨c, hc, e⟩ | ⟨hr, v', e⟩
  · left
    refine ⟨c, hc, ?_⟩
    show (sq _ _ [some (tagO kvs), some (.int worth), some (.list (rs.map encW)), none, none]).bind outRm = _
    rw [sq_e, s1, Option.bind_some]
    show (sq _ _ _).bind outRm = _
    rw [sq_e, stSetE_ex (n := 4) a2 rfl e]
    rfl
  · right
    obtain ⟨p, inv', hw⟩ := late_inv inv hr v'
    have s2 := stSetE_ok (i := 4) (n := 4) a2 rfl e
    have a5 : (aCons (bA (mkS 5 f_State___init__) (aCons (vr 4) (aCons (b1 (fldS "time") (vr 3)) (aCons (b1 (fldS "begun") (vr 3)) (aCons (b1 (fldS "promises") (vr 3)) aNil))))) (aCons (bA (fun l => (szOk l).map .tuple) (aCons (cD (.str "wish")) (aCons (vr 1) (aCons (asL (starD (vr 2))) aNil)))) aNil)) (some (tagO kvs) :: [some (.int worth), some (.list (rs.map encW)), some (stA x), some (encS' (x.S.late worth rs))]) = some [stA ⟨x.S.late worth rs, x.now, x.begun, x.prom, p⟩, .tuple [.str "wish", .int worth, .list (rs.map encW)]] := by
      have z1 : bA (mkS 5 f_State___init__) (aCons (vr 4) (aCons (b1 (fldS "time") (vr 3)) (aCons (b1 (fldS "begun") (vr 3)) (aCons (b1 (fldS "promises") (vr 3)) aNil)))) (some (tagO kvs) :: [some (.int worth), some (.list (rs.map encW)), some (stA x), some (encS' (x.S.late worth rs))]) = some (stA ⟨x.S.late worth rs, x.now, x.begun, x.prom, p⟩) := mkS_e inv'
      have z2 : asL (starD (vr 2)) (some (tagO kvs) :: [some (.int worth), some (.list (rs.map encW)), some (stA x), some (encS' (x.S.late worth rs))]) = some (.list (rs.map encW)) := star_e rfl (by simp; omega)
      rw [aCons_e, z1, aCons_e, bA_e, aCons_e, aCons_e, aCons_e, z2]
      simp
    have nd : noO (.tuple [.str "wish", .int worth, .list (rs.map encW)]) = true := by
      show (true && (true && (noO (.list (rs.map encW)) && true))) = true
      rw [noO_W]; rfl
    obtain ⟨kvs', s5, hc⟩ := enter_st (y := ⟨x.S.late worth rs, x.now, x.begun, x.prom, p⟩) h hn nd a5
    refine ⟨kvs', (((x.S.worths ++ [worth]).length : Nat) : Int) - 1, p, ?_, hc, inv', hw⟩
    show (sq _ _ [some (tagO kvs), some (.int worth), some (.list (rs.map encW)), none, none]).bind outRm = _
    rw [sq_e, s1, Option.bind_some]
    show (sq _ _ _).bind outRm = _
    rw [sq_e, s2, Option.bind_some]
    show (sq _ _ (some (tagO kvs) :: [some (.int worth), some (.list (rs.map encW)), some (stA x), some (encS' (x.S.late worth rs))])).bind outRm = _
    rw [sq_e, s5, Option.bind_some]
    show (stRet _ _).bind outRm = _
    have e9 : b2 subI (bA lenD (aCons (b2 ixD (vr 4) (cD (.int 1))) aNil)) (cD (.int 1)) (some (tagO kvs') :: [some (.int worth), some (.list (rs.map encW)), some (stA x), some (encS' (x.S.late worth rs))]) = some (.int ((((x.S.worths ++ [worth]).length : Nat) : Int) - 1)) := by
      have : (x.S.late worth rs).worths = x.S.worths ++ [worth] := rfl
      simp [getW, this]
    rw [stRet_e, e9]
    rfl
end Sk
set_option Elab.async false
set_option linter.all false
set_option maxRecDepth 100000
set_option maxHeartbeats 4000000
/-! What a console does: promise, release, lose; what it tells. -/
namespace Sk
open PySem L2 Dl
theorem neD_b (a b : Bool) : neD (.bool a) (.bool b) = some (.bool (a != b)) := by cases a <;> cases b <;> rfl
theorem neD_i (a b : Int) : neD (.int a) (.int b) = some (.bool (!decide (a = b))) := by
  unfold neD
  rw [shaped_int, shaped_int]
  show some (PyData.bool (!(a == b))) = _
  congr 3
theorem srtI_e (l : List Int) : srtI [.list (l.map .int)] = some (encR (l.mergeSort fun a b => decide (a ≤ b))) := by
  show (intsOf (l.map .int)).map _ = _
  rw [intsOf_map]; rfl
theorem check_wish_e {n : Nat} {x : Stt} {kvs : List (PyData × PyData)} (h : Con n x kvs) (w : Int) (b : Bool) : (((0 ≤ w ∧ w < x.S.worths.length) ∧ decide (w ∈ x.prom) = b) ∧ f_Console__check_wish kvs [.int w, .bool b] = some (.ok .none kvs)) ∨ (¬ ((0 ≤ w ∧ w < x.S.worths.length) ∧ decide (w ∈ x.prom) = b) ∧ ∃ c, c < 7 ∧ f_Console__check_wish kvs [.int w, .bool b] = some (.ex c kvs)) := by
  have hst : gOwn [0] (fMeth "_state" f_Console__state (vr 0)) [some (tagO kvs), some (.int w), some (.bool b), none] = some (stA x) := gOwn_of (fState h rfl) (noO_st x) rfl
  have s1 : stSet 3 (gOwn [0] (fMeth "_state" f_Console__state (vr 0))) [some (tagO kvs), some (.int w), some (.bool b), none] = some (.nx [some (tagO kvs), some (.int w), some (.bool b), some (stA x)]) := by
    rw [stSet_e, hst]; rfl
  have a2 : tNotD (tB (bA (gN 3 f_is_within) (aCons (vr 1) (aCons (cD (.int 0)) (aCons (b2 subI (bA lenD (aCons (b2 ixD (b1 (fldS "sky") (vr 3)) (cD (.int 1))) aNil)) (cD (.int 1))) aNil))))) [some (tagO kvs), some (.int w), some (.bool b), some (stA x)] = some (!decide (0 ≤ w ∧ w ≤ (x.S.worths.length : Int) - 1)) := by
    simp [getW]
  have a3 : tB (b2 neD (b2 inD (vr 1) (b1 (fldS "promises") (vr 3))) (vr 2)) [some (tagO kvs), some (.int w), some (.bool b), some (stA x)] = some (decide (w ∈ x.prom) != b) := by
    have z : b1 (fldS "promises") (vr 3) [some (tagO kvs), some (.int w), some (.bool b), some (stA x)] = some (encR x.prom) := rfl
    rw [tB_e, b2_e, b2_e, z]
    show (((inD (.int w) (encR x.prom)).bind fun y => neD y (.bool b))).bind _ = _
    rw [inD_ints, Option.bind_some, neD_b]
    rfl
  unfold f_Console__check_wish h_Console__check_wish runM
  by_cases c : 0 ≤ w ∧ w ≤ (x.S.worths.length : Int) - 1
  · cases e : decide (w ∈ x.prom) != b with
    | false =>
      left
      refine ⟨⟨by omega, by simpa using e⟩, ?_⟩
      show (sq _ _ [some (tagO kvs), some (.int w), some (.bool b), none]).bind outRm = _
      rw [sq_e, s1, Option.bind_some]
      show (sq _ _ _).bind outRm = _
      rw [sq_e, stIf_e, a2, Option.bind_some, decide_eq_true c, if_neg (by decide), stNx_e, Option.bind_some]
      show (stIf _ _ _ _).bind outRm = _
      rw [stIf_e, a3, Option.bind_some, e, if_neg (by decide)]
      rfl
    | true =>
      right
      refine ⟨fun z => ?_, 5, by decide, ?_⟩
      · rw [z.2] at e
        cases b <;> cases e
      show (sq _ _ [some (tagO kvs), some (.int w), some (.bool b), none]).bind outRm = _
      rw [sq_e, s1, Option.bind_some]
      show (sq _ _ _).bind outRm = _
      rw [sq_e, stIf_e, a2, Option.bind_some, decide_eq_true c, if_neg (by decide), stNx_e, Option.bind_some]
      show (stIf _ _ _ _).bind outRm = _
      rw [stIf_e, a3, Option.bind_some, e, if_pos rfl]
      rfl
  · right
    refine ⟨fun z => c ⟨z.1.1, by have := z.1.2; omega⟩, 2, by decide, ?_⟩
    show (sq _ _ [some (tagO kvs), some (.int w), some (.bool b), none]).bind outRm = _
    rw [sq_e, s1, Option.bind_some]
    show (sq _ _ _).bind outRm = _
    rw [sq_e, stIf_e, a2, Option.bind_some, decide_eq_false c, if_pos (by decide)]
    rfl
theorem stM_ok {m : Str} {n : Nat} {g : List (PyData × PyData) → List PyData → Option Rm} {f : Dt → Option (List PyData)} {kvs kvs' : List (PyData × PyData)} {δ : Dt} {ds : List PyData} {d : PyData} (hm : noF m kvs = true) (hf : f (some (tagO kvs) :: δ) = some ds) (hl : ds.length + 1 = n) (hg : g kvs ds = some (.ok d kvs')) : stE (eMeth 0 m n g f) (some (tagO kvs) :: δ) = some (.nx (some (tagO kvs') :: δ)) := by
  unfold stE eMeth
  show (if noF m kvs = true then (f (some (tagO kvs) :: δ)).bind (fun ds => if ds.length + 1 = n then (g kvs ds).map _ else none) else none).map _ = _
  rw [if_pos hm, hf, Option.bind_some, if_pos hl, hg]
  rfl
theorem stM_ex {m : Str} {n : Nat} {g : List (PyData × PyData) → List PyData → Option Rm} {f : Dt → Option (List PyData)} {kvs kvs' : List (PyData × PyData)} {δ : Dt} {ds : List PyData} {c : Nat} (hm : noF m kvs = true) (hf : f (some (tagO kvs) :: δ) = some ds) (hl : ds.length + 1 = n) (hg : g kvs ds = some (.ex c kvs')) : stE (eMeth 0 m n g f) (some (tagO kvs) :: δ) = some (.ex c (some (tagO kvs') :: δ)) := by
  unfold stE eMeth
  show (if noF m kvs = true then (f (some (tagO kvs) :: δ)).bind (fun ds => if ds.length + 1 = n then (g kvs ds).map _ else none) else none).map _ = _
  rw [if_pos hm, hf, Option.bind_some, if_pos hl, hg]
  rfl
theorem Con.noF {n : Nat} {x : Stt} {kvs : List (PyData × PyData)} (h : Con n x kvs) {m : Str} (hm : ∀ L n E, Dl.noF m (conK L n E) = true) : Dl.noF m kvs = true := by
  obtain ⟨L, E, rfl, _⟩ := h
  exact hm _ _ _
theorem keeps_sub {S : Sky} {p a b : List Int} (h : S.keeps p a = true) (hs : ∀ w ∈ b, w ∈ a) : S.keeps p b = true := by
  unfold Sky.keeps at *
  rw [List.all_eq_true] at *
  exact fun w hw => h w (hs w hw)
theorem sort_lt {l : List Int} (h : l.Nodup) : (l.mergeSort fun a b => decide (a ≤ b)).Pairwise (· < ·) := by
  have h1 : (l.mergeSort fun a b => decide (a ≤ b)).Pairwise fun a b => decide (a ≤ b) = true := List.pairwise_mergeSort (fun a b c h1 h2 => by
    have := of_decide_eq_true h1
    have := of_decide_eq_true h2
    exact decide_eq_true (by omega)) (fun a b => by
    by_cases h : a ≤ b
    · simp [h]
    · have : b ≤ a := by omega
      simp [this]) l
  have h2 : (l.mergeSort fun a b => decide (a ≤ b)).Nodup := (List.mergeSort_perm l _).nodup_iff.mpr h
  exact (h1.and h2).imp fun ⟨z1, z2⟩ => by
    have := of_decide_eq_true z1
    have : _ ≠ _ := z2
    omega
theorem promise_e {n : Nat} {x : Stt} {kvs : List (PyData × PyData)} (h : Con n x kvs) (hn : n ≤ 1000) (inv : Inv x) (w : Int) : (¬ ((0 ≤ w ∧ w < x.S.worths.length) ∧ w ∉ x.prom ∧ ∃ p, Ext x.S x.now x.begun p ∧ x.S.keeps p (x.prom ++ [w]) = true) ∧ ∃ c, c < 7 ∧ f_Console_promise kvs [.int w] = some (.ex c kvs)) ∨ ∃ kvs' d p, f_Console_promise kvs [.int w] = some (.ok (.int d) kvs') ∧ Con (n + 1) ⟨x.S, x.now, x.begun, (x.prom ++ [w]).mergeSort fun a b => decide (a ≤ b), p⟩ kvs' ∧ Inv ⟨x.S, x.now, x.begun, (x.prom ++ [w]).mergeSort fun a b => decide (a ≤ b), p⟩ ∧ x.S.worth p ≤ x.S.worth x.plan := by
  have hk : Dl.noF "_check_wish" kvs = true := h.noF fun _ _ _ => rfl
  have a1 : aCat 1 1 (aCons (vr 1) aNil) (aCons (cD (.bool false)) aNil) (some (tagO kvs) :: [some (.int w), none, none]) = some [.int w, .bool false] := rfl
  unfold f_Console_promise h_Console_promise runM
  rcases check_wish_e h w false with ⟨⟨c1, c2⟩, e⟩ | ⟨nc, c, hc, e⟩
  · have s1 := stM_ok (n := 3) hk a1 rfl e
    have hst : gOwn [0] (fMeth "_state" f_Console__state (vr 0)) [some (tagO kvs), some (.int w), none, none] = some (stA x) := gOwn_of (fState h rfl) (noO_st x) rfl
    have s2 : stSet 2 (gOwn [0] (fMeth "_state" f_Console__state (vr 0))) [some (tagO kvs), some (.int w), none, none] = some (.nx [some (tagO kvs), some (.int w), some (stA x), none]) := by
      rw [stSet_e, hst]; rfl
    have hsh := inv.short
    obtain ⟨d, q1, q2, q3, q4⟩ := clash_of_e inv.v x.now w (prom := x.prom) inv.b (by omega)
    have s3 : stSet 3 (bA (gN 5 f_clash_of) (aCat 3 2 (aCons (b1 (fldS "sky") (vr 2)) (aCons (b1 (fldS "promises") (vr 2)) (aCons (vr 1) aNil))) (aCons (b1 (fldS "time") (vr 2)) (aCons (b1 (fldS "begun") (vr 2)) aNil)))) [some (tagO kvs), some (.int w), some (stA x), none] = some (.nx [some (tagO kvs), some (.int w), some (stA x), some d]) := by
      have z : bA (gN 5 f_clash_of) (aCat 3 2 (aCons (b1 (fldS "sky") (vr 2)) (aCons (b1 (fldS "promises") (vr 2)) (aCons (vr 1) aNil))) (aCons (b1 (fldS "time") (vr 2)) (aCons (b1 (fldS "begun") (vr 2)) aNil))) [some (tagO kvs), some (.int w), some (stA x), none] = some d := by
        show gN 5 f_clash_of [encS' x.S, encR x.prom, .int w, .int x.now, encR x.begun] = _
        exact gN_e (n := 5) q1 rfl
      rw [stSet_e, z]; rfl
    have a4 : tB (b2 isNotN (vr 3) (cD .none)) [some (tagO kvs), some (.int w), some (stA x), some d] = some (!isNone d) := by simp
    cases hd : isNone d with
    | false =>
      left
      refine ⟨fun z => ?_, 6, by decide, ?_⟩
      · rw [q4 z.2.2] at hd
        cases hd
      show (sq _ _ (some (tagO kvs) :: [some (.int w), none, none])).bind outRm = _
      rw [sq_e, s1, Option.bind_some]
      show (sq _ _ _).bind outRm = _
      rw [sq_e, s2, Option.bind_some]
      show (sq _ _ _).bind outRm = _
      rw [sq_e, s3, Option.bind_some]
      show (sq _ _ _).bind outRm = _
      rw [sq_e, stIf_e, a4, Option.bind_some, hd, if_pos (by decide)]
      rfl
    | true =>
      right
      obtain ⟨p0, k1, k2⟩ := q2 hd
      have hm : ∀ u, u ∈ (x.prom ++ [w]).mergeSort (fun a b => decide (a ≤ b)) ↔ u ∈ x.prom ++ [w] := fun u => List.mem_mergeSort
      have hw : w ∉ x.prom := by simpa using c2
      have hln : ((x.prom ++ [w]).mergeSort (fun a b => decide (a ≤ b))).length ≤ 1000 := by
        rw [List.length_mergeSort, List.length_append, List.length_singleton]; omega
      obtain ⟨p, hp⟩ := best_some inv.v inv.b hln ⟨p0, k1, keeps_sub k2 fun u hu => (hm u).mp hu⟩
      have inv' : Inv ⟨x.S, x.now, x.begun, (x.prom ++ [w]).mergeSort fun a b => decide (a ≤ b), p⟩ := by
        refine ⟨inv.v, inv.t, inv.b, inv.bs, sort_lt ?_, fun u hu => ?_, hp⟩
        · rw [List.nodup_append]
          refine ⟨inv.ps.imp fun z => by omega, by simp, fun a ha b hb => ?_⟩
          rw [List.mem_singleton.mp hb]
          intro z
          exact hw (z ▸ ha)
        · rcases List.mem_append.mp ((hm u).mp hu) with z | z
          · exact inv.pr u z
          · rw [List.mem_singleton.mp z]; exact c1
      have a5 : (aCons (bA (mkS 5 f_State___init__) (aCons (b1 (fldS "sky") (vr 2)) (aCons (b1 (fldS "time") (vr 2)) (aCons (b1 (fldS "begun") (vr 2)) (aCons (bA srtI (aCons (b2 catL (b1 (fldS "promises") (vr 2)) (asL (bA (fun l => (szOk l).map .list) (aCons (vr 1) aNil)))) aNil)) aNil))))) (aCons (bA (fun l => (szOk l).map .tuple) (aCons (cD (.str "promise")) (aCons (vr 1) aNil))) aNil)) (some (tagO kvs) :: [some (.int w), some (stA x), some d]) = some [stA ⟨x.S, x.now, x.begun, (x.prom ++ [w]).mergeSort fun a b => decide (a ≤ b), p⟩, .tuple [.str "promise", .int w]] := by
        have z0 : asL (bA (fun l => (szOk l).map .list) (aCons (vr 1) aNil)) (some (tagO kvs) :: [some (.int w), some (stA x), some d]) = some (.list [.int w]) := asL_e _ _ (by simp)
        have z1 : bA srtI (aCons (b2 catL (b1 (fldS "promises") (vr 2)) (asL (bA (fun l => (szOk l).map .list) (aCons (vr 1) aNil)))) aNil) (some (tagO kvs) :: [some (.int w), some (stA x), some d]) = some (encR ((x.prom ++ [w]).mergeSort fun a b => decide (a ≤ b))) := by
          rw [bA_e, aCons_e, b2_e, z0]
          have z2 : b1 (fldS "promises") (vr 2) (some (tagO kvs) :: [some (.int w), some (stA x), some d]) = some (encR x.prom) := rfl
          rw [z2, Option.bind_some, Option.bind_some, catL_e (by simp; omega)]
          have z3 : x.prom.map PyData.int ++ [PyData.int w] = (x.prom ++ [w]).map .int := by simp
          rw [z3]
          exact srtI_e _
        have z4 : bA (mkS 5 f_State___init__) (aCons (b1 (fldS "sky") (vr 2)) (aCons (b1 (fldS "time") (vr 2)) (aCons (b1 (fldS "begun") (vr 2)) (aCons (bA srtI (aCons (b2 catL (b1 (fldS "promises") (vr 2)) (asL (bA (fun l => (szOk l).map .list) (aCons (vr 1) aNil)))) aNil)) aNil)))) (some (tagO kvs) :: [some (.int w), some (stA x), some d]) = some (stA ⟨x.S, x.now, x.begun, (x.prom ++ [w]).mergeSort fun a b => decide (a ≤ b), p⟩) := by
          rw [bA_e, aCons_e, aCons_e, aCons_e, aCons_e, z1]
          exact mkS_e inv'
        rw [aCons_e, z4]
        simp
      obtain ⟨kvs', s5, hc⟩ := enter_st (y := ⟨x.S, x.now, x.begun, (x.prom ++ [w]).mergeSort fun a b => decide (a ≤ b), p⟩) h hn (d := .tuple [.str "promise", .int w]) rfl a5
      refine ⟨kvs', x.S.worth x.plan - x.S.worth p, p, ?_, hc, inv', ?_⟩
      · show (sq _ _ (some (tagO kvs) :: [some (.int w), none, none])).bind outRm = _
        rw [sq_e, s1, Option.bind_some]
        show (sq _ _ _).bind outRm = _
        rw [sq_e, s2, Option.bind_some]
        show (sq _ _ _).bind outRm = _
        rw [sq_e, s3, Option.bind_some]
        show (sq _ _ _).bind outRm = _
        rw [sq_e, stIf_e, a4, Option.bind_some, hd, if_neg (by decide), stNx_e, Option.bind_some]
        show (sq _ _ _).bind outRm = _
        rw [sq_e, s5, Option.bind_some]
        show (stRet _ _).bind outRm = _
        have z5 : gOwn [0] (b2 subI (b1 (fldS "worth") (vr 2)) (b1 (fldS "worth") (fMeth "_state" f_Console__state (vr 0)))) (some (tagO kvs') :: [some (.int w), some (stA x), some d]) = some (.int (x.S.worth x.plan - x.S.worth p)) := by
          refine gOwn_of ?_ rfl rfl
          rw [b2_e, b1_e, b1_e, fState hc (fo := vr 0) rfl]
          rfl
        rw [stRet_e, z5]
        rfl
      · refine (inv.best.top p hp.ext (keeps_sub hp.keeps fun u hu => (hm u).mpr (List.mem_append.mpr (.inl hu)))).1
  · left
    refine ⟨fun z => nc ⟨z.1, decide_eq_false z.2.1⟩, c, hc, ?_⟩
    have s1 := stM_ex (n := 3) hk a1 rfl e
    show (sq _ _ (some (tagO kvs) :: [some (.int w), none, none])).bind outRm = _
    rw [sq_e, s1]
    rfl
/-! ### release -/
theorem release_e {n : Nat} {x : Stt} {kvs : List (PyData × PyData)} (h : Con n x kvs) (hn : n ≤ 1000) (inv : Inv x) (w : Int) : (∃ c, c < 7 ∧ f_Console_release kvs [.int w] = some (.ex c kvs)) ∨ ∃ kvs' d p, f_Console_release kvs [.int w] = some (.ok (.int d) kvs') ∧ Con (n + 1) ⟨x.S, x.now, x.begun, x.prom.filter (fun u => !decide (u = w)), p⟩ kvs' ∧ Inv ⟨x.S, x.now, x.begun, x.prom.filter (fun u => !decide (u = w)), p⟩ ∧ x.S.worth x.plan ≤ x.S.worth p := by
  have hk : Dl.noF "_check_wish" kvs = true := h.noF fun _ _ _ => rfl
  have a1 : aCat 1 1 (aCons (vr 1) aNil) (aCons (cD (.bool true)) aNil) (some (tagO kvs) :: [some (.int w), none, none, none]) = some [.int w, .bool true] := rfl
  unfold f_Console_release h_Console_release runM
  rcases check_wish_e h w true with ⟨⟨c1, c2⟩, e⟩ | ⟨_, c, hc, e⟩
  · right
    have s1 := stM_ok (n := 3) hk a1 rfl e
    have hst : gOwn [0] (fMeth "_state" f_Console__state (vr 0)) [some (tagO kvs), some (.int w), none, none, none] = some (stA x) := gOwn_of (fState h rfl) (noO_st x) rfl
    have s2 : stSet 2 (gOwn [0] (fMeth "_state" f_Console__state (vr 0))) [some (tagO kvs), some (.int w), none, none, none] = some (.nx [some (tagO kvs), some (.int w), some (stA x), none, none]) := by
      rw [stSet_e, hst]; rfl
    have hsh := inv.short
    obtain ⟨rest, hrest⟩ : ∃ rest, rest = x.prom.filter (fun u => !decide (u = w)) := ⟨_, rfl⟩
    have hsub : ∀ u ∈ rest, u ∈ x.prom := fun u hu => by rw [hrest] at hu; exact (List.mem_filter.mp hu).1
    have hrl : rest.length ≤ 6 := by rw [hrest]; exact Nat.le_trans (List.length_filter_le _ _) hsh
    have a3 : cp_Console_release_1 [some (tagO kvs), some (.int w), some (stA x), none, none] = some (encR rest) := by
      unfold cp_Console_release_1
      show _ = some (PyData.list (rest.map .int))
      rw [hrest]
      refine lcD_e (ds := x.prom.map .int) (by simp) (by simp; omega) ?_
      refine lc_map (f := PyData.int) _ _ x.prom fun u hu => ⟨[some (tagO kvs), some (.int w), some (stA x), none, some (.int u)], by simp [wipeD], ?_, fun _ => by simp⟩
      simp [neD_i]
    have s3 : stSet 3 (asL cp_Console_release_1) [some (tagO kvs), some (.int w), some (stA x), none, none] = some (.nx [some (tagO kvs), some (.int w), some (stA x), some (encR rest), none]) := by
      rw [stSet_e, asL_e _ _ a3]; rfl
    have e1 := keeps_sub inv.best.keeps hsub
    obtain ⟨p, hp⟩ := best_some inv.v inv.b (prom := rest) (by omega) ⟨x.plan, inv.best.ext, e1⟩
    have inv' : Inv ⟨x.S, x.now, x.begun, rest, p⟩ := ⟨inv.v, inv.t, inv.b, inv.bs, by
      show rest.Pairwise _
      rw [hrest]; exact inv.ps.filter _, fun u hu => inv.pr u (hsub u hu), hp⟩
    rw [← hrest]
    have a5 : (aCons (bA (mkS 5 f_State___init__) (aCons (b1 (fldS "sky") (vr 2)) (aCons (b1 (fldS "time") (vr 2)) (aCons (b1 (fldS "begun") (vr 2)) (aCons (vr 3) aNil))))) (aCons (bA (fun l => (szOk l).map .tuple) (aCons (cD (.str "release")) (aCons (vr 1) aNil))) aNil)) (some (tagO kvs) :: [some (.int w), some (stA x), some (encR rest), none]) = some [stA ⟨x.S, x.now, x.begun, rest, p⟩, .tuple [.str "release", .int w]] := by
      have z4 : bA (mkS 5 f_State___init__) (aCons (b1 (fldS "sky") (vr 2)) (aCons (b1 (fldS "time") (vr 2)) (aCons (b1 (fldS "begun") (vr 2)) (aCons (vr 3) aNil)))) (some (tagO kvs) :: [some (.int w), some (stA x), some (encR rest), none]) = some (stA ⟨x.S, x.now, x.begun, rest, p⟩) := mkS_e inv'
      rw [aCons_e, z4]
      simp
    obtain ⟨kvs', s5, hc⟩ := enter_st (y := ⟨x.S, x.now, x.begun, rest, p⟩) h hn (d := .tuple [.str "release", .int w]) rfl a5
    refine ⟨kvs', x.S.worth p - x.S.worth x.plan, p, ?_, hc, inv', ?_⟩
    · show (sq _ _ (some (tagO kvs) :: [some (.int w), none, none, none])).bind outRm = _
      rw [sq_e, s1, Option.bind_some]
      show (sq _ _ _).bind outRm = _
      rw [sq_e, s2, Option.bind_some]
      show (sq _ _ _).bind outRm = _
      rw [sq_e, s3, Option.bind_some]
      show (sq _ _ _).bind outRm = _
      rw [sq_e, s5, Option.bind_some]
      show (stRet _ _).bind outRm = _
      have z5 : gOwn [0] (b2 subI (b1 (fldS "worth") (fMeth "_state" f_Console__state (vr 0))) (b1 (fldS "worth") (vr 2))) (some (tagO kvs') :: [some (.int w), some (stA x), some (encR rest), none]) = some (.int (x.S.worth p - x.S.worth x.plan)) := by
        refine gOwn_of ?_ rfl rfl
        rw [b2_e, b1_e, b1_e, fState hc (fo := vr 0) rfl]
        rfl
      rw [stRet_e, z5]
      rfl
    · exact (hp.top _ inv.best.ext e1).1
  · left
    refine ⟨c, hc, ?_⟩
    have s1 := stM_ex (n := 3) hk a1 rfl e
    show (sq _ _ (some (tagO kvs) :: [some (.int w), none, none, none])).bind outRm = _
    rw [sq_e, s1]
    rfl
end Sk
set_option Elab.async false
set_option linter.all false
set_option maxRecDepth 100000
set_option maxHeartbeats 4000000
/-! What a console does: lose; what it tells. -/
namespace Sk
open PySem L2 Dl
theorem cut_to {l : List PyData} {e : Nat} (h : e ≤ l.length) : cutD l none (some (e : Int)) = l.take e := by
  unfold cutD
  rw [HT.sIx_nat, HT.sIx_none, Nat.min_eq_left h]
  simp
theorem cut_from {l : List PyData} {e : Nat} (h : e ≤ l.length) : cutD l (some (e : Int)) none = l.drop e := by
  unfold cutD
  rw [HT.sIx_nat, HT.sIx_none, Nat.min_eq_left h]
  refine List.take_of_length_le ?_
  rw [List.length_drop]
  exact Nat.le_refl _
/-- what stays promised, one by one -/
noncomputable def kept (S : Sky) (now : Int) (begun : List Int) : List Int → List Int → List Int
  | k, [] => k
  | k, w :: q => open Classical in kept S now begun (if ∃ r, Ext S now begun r ∧ S.keeps r (k ++ [w]) = true then k ++ [w] else k) q
theorem lose_loop {S : Sky} (v : Valid S) {x : Stt} {now : Int} {begun : List Int} (hnow : x.now = now) (hbg : x.begun = begun) (b : Begun S begun) (p0 p1 p2 p3 p4 p5 p6 : Option PyData) : ∀ (q p kp : List Int) (x10 : Option PyData), (p ++ q).length ≤ 6 → kp.Sublist p → (∃ r, Ext S now begun r ∧ S.keeps r kp = true) →
    ∃ (x10' : Option PyData), forL (setD 10) lp_Console_lose_1 (q.map .int) [p0, p1, some (stA x), p2, p3, p4, p5, p6, some (encS' S), some (encR kp), x10] = some (.nx [p0, p1, some (stA x), p2, p3, p4, p5, p6, some (encS' S), some (encR (kept S now begun kp q)), x10']) ∧ (kept S now begun kp q).Sublist (p ++ q) ∧ ∃ r, Ext S now begun r ∧ S.keeps r (kept S now begun kp q) = true := by
  intro q
  induction q with
  | nil => intro p kp x10 _ h1 h2; exact ⟨x10, rfl, by rw [List.append_nil]; exact h1, h2⟩
  | cons w q ih =>
    intro p kp x10 hl h1 h2
    rw [List.length_append, List.length_cons] at hl
    have hk := h1.length_le
    obtain ⟨c, e1, e2⟩ := can_keep_e v now (prom := kp ++ [w]) b (by simp; omega)
    have a0 : asL (bA (fun l => (szOk l).map .list) (aCons (vr 10) aNil)) [p0, p1, some (stA x), p2, p3, p4, p5, p6, some (encS' S), some (encR kp), some (.int w)] = some (.list [.int w]) := asL_e _ _ (by simp)
    have a1 : b2 catL (vr 9) (asL (bA (fun l => (szOk l).map .list) (aCons (vr 10) aNil))) [p0, p1, some (stA x), p2, p3, p4, p5, p6, some (encS' S), some (encR kp), some (.int w)] = some (encR (kp ++ [w])) := by
      rw [b2_e, a0]
      show catL (encR kp) (.list [.int w]) = _
      rw [catL_e (by simp; omega)]
      simp
    have a2 : tB (bA (gN 4 f_can_keep) (aCat 2 2 (aCons (vr 8) (aCons (b2 catL (vr 9) (asL (bA (fun l => (szOk l).map .list) (aCons (vr 10) aNil)))) aNil)) (aCons (b1 (fldS "time") (vr 2)) (aCons (b1 (fldS "begun") (vr 2)) aNil)))) [p0, p1, some (stA x), p2, p3, p4, p5, p6, some (encS' S), some (encR kp), some (.int w)] = some c := by
      rw [tB_e, bA_e, aCat_e, aCons_e, aCons_e, a1]
      show ((gN 4 f_can_keep [encS' S, encR (kp ++ [w]), .int x.now, encR x.begun])).bind _ = _
      rw [hnow, hbg, gN_e (n := 4) e1 rfl]
      rfl
    have body : lp_Console_lose_1 ([p0, p1, some (stA x), p2, p3, p4, p5, p6, some (encS' S), some (encR kp), x10].set 10 (some (.int w))) = some (.nx [p0, p1, some (stA x), p2, p3, p4, p5, p6, some (encS' S), some (encR (if c = true then kp ++ [w] else kp)), some (.int w)]) := by
      show lp_Console_lose_1 [p0, p1, some (stA x), p2, p3, p4, p5, p6, some (encS' S), some (encR kp), some (.int w)] = _
      unfold lp_Console_lose_1
      rw [stIf_e, a2, Option.bind_some]
      cases c with
      | false => rfl
      | true =>
        rw [if_pos rfl, if_pos rfl]
        unfold stApp
        show (if (kp.map PyData.int).length < sizeLine then _ else none) = _
        rw [if_pos (by rw [sizeLine_eq, List.length_map]; omega)]
        simp
    rw [List.map_cons]
    unfold forL
    rw [setD_e, Option.bind_some, body, Option.bind_some]
    have e3 : p ++ w :: q = (p ++ [w]) ++ q := by simp
    rw [e3]
    have ek : kept S now begun kp (w :: q) = kept S now begun (if c = true then kp ++ [w] else kp) q := by
      show kept S now begun _ q = _
      congr 1
      by_cases hc : c = true
      · rw [if_pos hc]
        exact if_pos (e2.mp hc)
      · rw [if_neg hc]
        exact if_neg fun z => hc (e2.mpr z)
    rw [ek]
    refine ih (p ++ [w]) (if c = true then kp ++ [w] else kp) (some (.int w)) (by simp; omega) ?_ ?_
    · split
      · exact h1.append (List.Sublist.refl _)
      · exact h1.trans (List.sublist_append_left _ _)
    · split
      · rename_i hc; exact e2.mp hc
      · exact h2
theorem lose_e {n : Nat} {x : Stt} {kvs : List (PyData × PyData)} (h : Con n x kvs) (hn : n ≤ 1000) (inv : Inv x) (ear : Int) : (¬ (∃ h : 0 ≤ ear ∧ ear.toNat < x.S.ears.length, x.now ≤ x.S.ears[ear.toNat].f) ∧ ∃ c, c < 7 ∧ f_Console_lose kvs [.int ear] = some (.ex c kvs)) ∨ ∃ kvs' p, f_Console_lose kvs [.int ear] = some (.ok (encR (x.prom.filter fun w => !decide (w ∈ kept (x.S.lose ear.toNat) x.now x.begun [] x.prom))) kvs') ∧ Con (n + 1) ⟨x.S.lose ear.toNat, x.now, x.begun, kept (x.S.lose ear.toNat) x.now x.begun [] x.prom, p⟩ kvs' ∧ Inv ⟨x.S.lose ear.toNat, x.now, x.begun, kept (x.S.lose ear.toNat) x.now x.begun [] x.prom, p⟩ ∧ ((∀ w ∈ x.prom, w ∈ kept (x.S.lose ear.toNat) x.now x.begun [] x.prom) → (x.S.lose ear.toNat).worth p ≤ x.S.worth x.plan) := by
  have hw := inv.v.nw
  have hs := inv.short
  have hst : gOwn [0, 9] (fMeth "_state" f_Console__state (vr 0)) [some (tagO kvs), some (.int ear), none, none, none, none, none, none, none, none, none] = some (stA x) := gOwn_of (fState h rfl) (noO_st x) rfl
  have s1 : stSet 2 (gOwn [0, 9] (fMeth "_state" f_Console__state (vr 0))) [some (tagO kvs), some (.int ear), none, none, none, none, none, none, none, none, none] = some (.nx [some (tagO kvs), some (.int ear), some (stA x), none, none, none, none, none, none, none, none]) := by
    rw [stSet_e, hst]; rfl
  obtain ⟨pl, hpl⟩ : ∃ pl, pl = PyData.list (x.S.looks.map encL) := ⟨_, rfl⟩
  obtain ⟨pw, hpw⟩ : ∃ pw, pw = PyData.list (x.S.worths.map .int) := ⟨_, rfl⟩
  have s2 : stG (b1 (fldS "sky") (vr 2)) (gT 5 (gsCons (setD 3) (gsCons (setD 4) (gsCons (setD 5) (gsCons (setD 6) (gsCons (setD 7) gsNil)))))) [some (tagO kvs), some (.int ear), some (stA x), none, none, none, none, none, none, none, none] = some (.nx [some (tagO kvs), some (.int ear), some (stA x), some pl, some pw, some (.list (x.S.ears.map encE)), some (.int x.S.cap), some (.int x.S.turn), none, none, none]) := by
    rw [stG_e, b1_e]
    show ((fldS "sky" (stA x)).bind _) = _
    rw [fS_sky, hpl, hpw]
    rfl
  have a3 : tNotD (tB (bA (gN 3 f_is_within) (aCons (vr 1) (aCons (cD (.int 0)) (aCons (b2 subI (bA lenD (aCons (vr 5) aNil)) (cD (.int 1))) aNil))))) [some (tagO kvs), some (.int ear), some (stA x), some pl, some pw, some (.list (x.S.ears.map encE)), some (.int x.S.cap), some (.int x.S.turn), none, none, none] = some (!decide (0 ≤ ear ∧ ear ≤ (x.S.ears.length : Int) - 1)) := by
    simp
  unfold f_Console_lose h_Console_lose runM
  by_cases c : 0 ≤ ear ∧ ear ≤ (x.S.ears.length : Int) - 1
  case neg =>
    left
    refine ⟨fun ⟨z, _⟩ => c (by omega), 4, by decide, ?_⟩
    show (sq _ _ [some (tagO kvs), some (.int ear), none, none, none, none, none, none, none, none, none]).bind outRm = _
    rw [sq_e, s1, Option.bind_some]
    show (sq _ _ _).bind outRm = _
    rw [sq_e, s2, Option.bind_some]
    show (sq _ _ _).bind outRm = _
    rw [sq_e, stIf_e, tOr_e, a3, decide_eq_false c]
    rfl
  obtain ⟨e, rfl⟩ : ∃ e : Nat, ear = e := ⟨ear.toNat, by omega⟩
  have he : e < x.S.ears.length := by omega
  have a4 : tB (b2 ltI (b2 ixD (b2 ixD (vr 5) (vr 1)) (cD (.int 0))) (b1 (fldS "time") (vr 2))) [some (tagO kvs), some (.int (e : Int)), some (stA x), some pl, some pw, some (.list (x.S.ears.map encE)), some (.int x.S.cap), some (.int x.S.turn), none, none, none] = some (decide (x.S.ears[e].f < x.now)) := by
    have z : ixD (.list (x.S.ears.map encE)) (.int e) = some (encE x.S.ears[e]) := ixD_l (by rw [List.getElem?_map, List.getElem?_eq_getElem he]; rfl)
    simp [z, encE]
  have a5 : tOrD (tNotD (tB (bA (gN 3 f_is_within) (aCons (vr 1) (aCons (cD (.int 0)) (aCons (b2 subI (bA lenD (aCons (vr 5) aNil)) (cD (.int 1))) aNil)))))) (tB (b2 ltI (b2 ixD (b2 ixD (vr 5) (vr 1)) (cD (.int 0))) (b1 (fldS "time") (vr 2)))) [some (tagO kvs), some (.int (e : Int)), some (stA x), some pl, some pw, some (.list (x.S.ears.map encE)), some (.int x.S.cap), some (.int x.S.turn), none, none, none] = some (decide (x.S.ears[e].f < x.now)) := by
    rw [tOr_e, a3, decide_eq_true c, Option.bind_some, if_neg (by decide), a4]
  by_cases c2 : x.S.ears[e].f < x.now
  case pos =>
    left
    refine ⟨fun ⟨_, z⟩ => by
      have z : x.now ≤ x.S.ears[e].f := z
      omega, 4, by decide, ?_⟩
    show (sq _ _ [some (tagO kvs), some (.int (e : Int)), none, none, none, none, none, none, none, none, none]).bind outRm = _
    rw [sq_e, s1, Option.bind_some]
    show (sq _ _ _).bind outRm = _
    rw [sq_e, s2, Option.bind_some]
    show (sq _ _ _).bind outRm = _
    rw [sq_e, stIf_e, a5, decide_eq_true c2]
    rfl
  right
  rw [show ((e : Int)).toNat = e from rfl]
  have hless := lose_less inv.v he (now := x.now) (by omega)
  obtain ⟨S', hS'⟩ : ∃ S', S' = x.S.lose e := ⟨_, rfl⟩
  rw [← hS'] at hless ⊢
  have v' := hless.valid inv.v
  have b' : Begun S' x.begun := ⟨(hless.begun inv.v _ inv.b.pl inv.bs).1, fun i hi => (hless.has i).mpr (inv.b.has i hi)⟩
  have s4 : stSet 8 (bA (fun l => (szOk l).map .tuple) (aCons (vr 3) (aCons (vr 4) (aCons (b2 catL (asL (slD (vr 5) (tPt none) (tPt (some (vr 1))))) (asL (slD (vr 5) (tPt (some (b2 addI (vr 1) (cD (.int 1))))) (tPt none)))) (aCons (vr 6) (aCons (vr 7) aNil)))))) [some (tagO kvs), some (.int (e : Int)), some (stA x), some pl, some pw, some (.list (x.S.ears.map encE)), some (.int x.S.cap), some (.int x.S.turn), none, none, none] = some (.nx [some (tagO kvs), some (.int (e : Int)), some (stA x), some pl, some pw, some (.list (x.S.ears.map encE)), some (.int x.S.cap), some (.int x.S.turn), some (encS' S'), none, none]) := by
    have z1 : slD (vr 5) (tPt none) (tPt (some (vr 1))) [some (tagO kvs), some (.int (e : Int)), some (stA x), some pl, some pw, some (.list (x.S.ears.map encE)), some (.int x.S.cap), some (.int x.S.turn), none, none, none] = some (.list ((x.S.ears.take e).map encE)) := by
      show some (PyData.list (cutD (x.S.ears.map encE) none (some (e : Int)))) = _
      rw [cut_to (by simp; omega), List.map_take]
    have z2 : slD (vr 5) (tPt (some (b2 addI (vr 1) (cD (.int 1))))) (tPt none) [some (tagO kvs), some (.int (e : Int)), some (stA x), some pl, some pw, some (.list (x.S.ears.map encE)), some (.int x.S.cap), some (.int x.S.turn), none, none, none] = some (.list ((x.S.ears.drop (e + 1)).map encE)) := by
      show some (PyData.list (cutD (x.S.ears.map encE) (some ((e : Int) + 1)) none)) = _
      rw [show ((e : Int) + 1) = ((e + 1 : Nat) : Int) by omega, cut_from (by simp; omega), List.map_drop]
    have ne := inv.v.ne
    have z3 : b2 catL (asL (slD (vr 5) (tPt none) (tPt (some (vr 1))))) (asL (slD (vr 5) (tPt (some (b2 addI (vr 1) (cD (.int 1))))) (tPt none))) [some (tagO kvs), some (.int (e : Int)), some (stA x), some pl, some pw, some (.list (x.S.ears.map encE)), some (.int x.S.cap), some (.int x.S.turn), none, none, none] = some (.list (S'.ears.map encE)) := by
      rw [b2_e, asL_e _ _ z1, asL_e _ _ z2, Option.bind_some, Option.bind_some, catL_e (by simp; omega), ← List.map_append, hS']
      rfl
    rw [stSet_e, bA_e, aCons_e, aCons_e, aCons_e, z3]
    simp only [aCons_e, aNil_e, vr_e]
    show ((szOk [pl, pw, .list (S'.ears.map encE), .int x.S.cap, .int x.S.turn]).map PyData.tuple).map _ = _
    rw [szOk_5, hpl, hpw, hS']
    rfl
  have s5 : stSet 9 (asL (bA (fun l => (szOk l).map .list) aNil)) [some (tagO kvs), some (.int (e : Int)), some (stA x), some pl, some pw, some (.list (x.S.ears.map encE)), some (.int x.S.cap), some (.int x.S.turn), some (encS' S'), none, none] = some (.nx [some (tagO kvs), some (.int (e : Int)), some (stA x), some pl, some pw, some (.list (x.S.ears.map encE)), some (.int x.S.cap), some (.int x.S.turn), some (encS' S'), some (encR []), none]) := by
    have z : asL (bA (fun l => (szOk l).map .list) aNil) [some (tagO kvs), some (.int (e : Int)), some (stA x), some pl, some pw, some (.list (x.S.ears.map encE)), some (.int x.S.cap), some (.int x.S.turn), some (encS' S'), none, none] = some (.list []) := asL_e _ _ (by simp)
    rw [stSet_e, z]; rfl
  obtain ⟨x10, t1, t2, t3⟩ := lose_loop v' (x := x) rfl rfl b' (some (tagO kvs)) (some (.int (e : Int))) (some pl) (some pw) (some (.list (x.S.ears.map encE))) (some (.int x.S.cap)) (some (.int x.S.turn)) x.prom [] [] none (by simpa using hs) (List.Sublist.refl _) ⟨x.begun, Ext.base b'.pl, rfl⟩
  rw [List.nil_append] at t2
  obtain ⟨kept, hkept⟩ : ∃ k, k = kept S' x.now x.begun [] x.prom := ⟨_, rfl⟩
  rw [← hkept] at t1 t2 t3 ⊢
  have hkl := t2.length_le
  obtain ⟨p, hp⟩ := best_some v' b' (prom := kept) (by omega) t3
  have inv' : Inv ⟨S', x.now, x.begun, kept, p⟩ := ⟨v', inv.t, b', fun i hi => by
    show (S'.at i).s < x.now
    rw [hless.at]; exact inv.bs i hi, inv.ps.sublist t2, fun u hu => by
    show 0 ≤ u ∧ u < (S'.worths.length : Int)
    rw [hless.worths]
    exact inv.pr u (t2.subset hu), hp⟩
  have a7 : (aCons (bA (mkS 5 f_State___init__) (aCons (vr 8) (aCons (b1 (fldS "time") (vr 2)) (aCons (b1 (fldS "begun") (vr 2)) (aCons (vr 9) aNil))))) (aCons (bA (fun l => (szOk l).map .tuple) (aCons (cD (.str "lose")) (aCons (vr 1) aNil))) aNil)) (some (tagO kvs) :: [some (.int (e : Int)), some (stA x), some pl, some pw, some (.list (x.S.ears.map encE)), some (.int x.S.cap), some (.int x.S.turn), some (encS' S'), some (encR kept), x10]) = some [stA ⟨S', x.now, x.begun, kept, p⟩, .tuple [.str "lose", .int e]] := by
    have z4 : bA (mkS 5 f_State___init__) (aCons (vr 8) (aCons (b1 (fldS "time") (vr 2)) (aCons (b1 (fldS "begun") (vr 2)) (aCons (vr 9) aNil)))) (some (tagO kvs) :: [some (.int (e : Int)), some (stA x), some pl, some pw, some (.list (x.S.ears.map encE)), some (.int x.S.cap), some (.int x.S.turn), some (encS' S'), some (encR kept), x10]) = some (stA ⟨S', x.now, x.begun, kept, p⟩) := mkS_e inv'
    rw [aCons_e, z4]
    simp
  obtain ⟨kvs', s7, hc⟩ := enter_st (y := ⟨S', x.now, x.begun, kept, p⟩) h hn (d := .tuple [.str "lose", .int e]) rfl a7
  refine ⟨kvs', p, ?_, hc, inv', fun hall => ?_⟩
  · show (sq _ _ [some (tagO kvs), some (.int (e : Int)), none, none, none, none, none, none, none, none, none]).bind outRm = _
    rw [sq_e, s1, Option.bind_some]
    show (sq _ _ _).bind outRm = _
    rw [sq_e, s2, Option.bind_some]
    show (sq _ _ _).bind outRm = _
    rw [sq_e, stIf_e, a5, Option.bind_some, decide_eq_false c2, if_neg (by decide), stNx_e, Option.bind_some]
    show (sq _ _ _).bind outRm = _
    rw [sq_e, s4, Option.bind_some]
    show (sq _ _ _).bind outRm = _
    rw [sq_e, s5, Option.bind_some]
    show (sq _ _ _).bind outRm = _
    have e6 : listI (b1 (fldS "promises") (vr 2)) [some (tagO kvs), some (.int (e : Int)), some (stA x), some pl, some pw, some (.list (x.S.ears.map encE)), some (.int x.S.cap), some (.int x.S.turn), some (encS' S'), some (encR []), none] = some (x.prom.map .int) := rfl
    rw [sq_e, stFor_e, e6, Option.bind_some, t1, Option.bind_some]
    show (noNx _ (some (tagO kvs) :: _)).bind outRm = _
    unfold noNx
    rw [sq_e, s7, Option.bind_some]
    have z8 : cp_Console_lose_1 (some (tagO kvs') :: [some (.int (e : Int)), some (stA x), some pl, some pw, some (.list (x.S.ears.map encE)), some (.int x.S.cap), some (.int x.S.turn), some (encS' S'), some (encR kept), x10]) = some (encR (x.prom.filter fun w => !decide (w ∈ kept))) := by
      unfold cp_Console_lose_1
      show _ = some (PyData.list ((x.prom.filter fun w => !decide (w ∈ kept)).map .int))
      refine lcD_e (ds := x.prom.map .int) rfl (by simp; omega) ?_
      refine lc_map (f := PyData.int) _ _ x.prom fun w hw => ⟨[some (tagO kvs'), some (.int (e : Int)), some (stA x), some pl, some pw, some (.list (x.S.ears.map encE)), some (.int x.S.cap), some (.int x.S.turn), some (encS' S'), some (encR kept), some (.int w)], by simp [wipeD], ?_, fun _ => by simp⟩
      rw [tB_e, b2_e]
      show ((notInD (.int w) (encR kept))).bind _ = _
      rw [notInD_ints]
      rfl
    show ((stRet _ _).bind _).bind outRm = _
    rw [stRet_e, asL_e _ _ z8]
    rfl
  · have k1 := hless.ext hp.ext
    have k2 : x.S.keeps p x.prom = true := by
      rw [← hless.keeps p x.prom]
      exact keeps_sub hp.keeps hall
    have := (inv.best.top p k1 k2).1
    rw [hless.worth]
    exact this
/-! ### what it tells -/
theorem sky_e {n : Nat} {x : Stt} {kvs : List (PyData × PyData)} (h : Con n x kvs) (inv : Inv x) : f_Console_sky [tagO kvs] = some (.ok (encS' x.S)) := by
  unfold f_Console_sky h_Console_sky runP
  have e := fState h (fo := vr 0) (δ := [some (tagO kvs)]) rfl
  show (stRet _ [some (tagO kvs)]).bind outRs = _
  rw [stRet_e, bA_e, aCons_e, b1_e, e]
  show ((gN 1 f_copied [encS' x.S]).map _).bind outRs = _
  rw [gN_e (n := 1) (copied_e inv.v) rfl]
  rfl
theorem begun_e {n : Nat} {x : Stt} {kvs : List (PyData × PyData)} (h : Con n x kvs) (inv : Inv x) : f_Console_begun [tagO kvs] = some (.ok (encR x.begun)) := by
  unfold f_Console_begun h_Console_begun runP
  have e := fState h (fo := vr 0) (δ := [some (tagO kvs)]) rfl
  have hl := (Good.of _ inv.b.pl inv.b.has).short inv.v
  have z : b1 (fldS "begun") (fMeth "_state" f_Console__state (vr 0)) [some (tagO kvs)] = some (.list (x.begun.map .int)) := by
    rw [b1_e, e]; rfl
  show (stRet _ [some (tagO kvs)]).bind outRs = _
  rw [stRet_e, star_e z (by simp; omega)]
  rfl
theorem promises_e {n : Nat} {x : Stt} {kvs : List (PyData × PyData)} (h : Con n x kvs) (inv : Inv x) : f_Console_promises [tagO kvs] = some (.ok (encR x.prom)) := by
  unfold f_Console_promises h_Console_promises runP
  have e := fState h (fo := vr 0) (δ := [some (tagO kvs)]) rfl
  have hl := inv.short
  have z : b1 (fldS "promises") (fMeth "_state" f_Console__state (vr 0)) [some (tagO kvs)] = some (.list (x.prom.map .int)) := by
    rw [b1_e, e]; rfl
  show (stRet _ [some (tagO kvs)]).bind outRs = _
  rw [stRet_e, star_e z (by simp; omega)]
  rfl
theorem plan_e {n : Nat} {x : Stt} {kvs : List (PyData × PyData)} (h : Con n x kvs) (inv : Inv x) : f_Console_plan [tagO kvs] = some (.ok (encR x.plan)) := by
  unfold f_Console_plan h_Console_plan runP
  have e := fState h (fo := vr 0) (δ := [some (tagO kvs)]) rfl
  have hl := (inv.best.ext.good inv.b.has).short inv.v
  have z : b1 (fldS "plan") (fMeth "_state" f_Console__state (vr 0)) [some (tagO kvs)] = some (.list (x.plan.map .int)) := by
    rw [b1_e, e]; rfl
  show (stRet _ [some (tagO kvs)]).bind outRs = _
  rw [stRet_e, star_e z (by simp; omega)]
  rfl
theorem worth_e {n : Nat} {x : Stt} {kvs : List (PyData × PyData)} (h : Con n x kvs) (inv : Inv x) : f_Console_worth [tagO kvs] = some (.ok (.int (x.S.worth x.plan))) := by
  unfold f_Console_worth h_Console_worth runP
  have e := fState h (fo := vr 0) (δ := [some (tagO kvs)]) rfl
  have g := inv.best.ext.good inv.b.has
  have hl := g.short inv.v
  show (stRet _ [some (tagO kvs)]).bind outRs = _
  rw [stRet_e, bA_e, aCons_e, b1_e, e, aCons_e, b1_e, e]
  show ((gN 2 f_worth_of [encS' x.S, encR x.plan]).map _).bind outRs = _
  rw [gN_e (n := 2) (worth_of_e inv.v g.has (by omega)) rfl]
  rfl
theorem now_e {n : Nat} {x : Stt} {kvs : List (PyData × PyData)} (h : Con n x kvs) : f_Console_now [tagO kvs] = some (.ok (.int x.now)) := by
  unfold f_Console_now h_Console_now runP
  have e := fState h (fo := vr 0) (δ := [some (tagO kvs)]) rfl
  show (stRet _ [some (tagO kvs)]).bind outRs = _
  rw [stRet_e, b1_e, e]
  rfl
end Sk
set_option Elab.async false
set_option linter.all false
set_option maxRecDepth 100000
set_option maxHeartbeats 4000000
/-! The law's draws. -/
namespace Sk
open PySem L2 Dl
@[simp] theorem gFlat_e (f : Dt → Option PyData) (δ : Dt) : gFlat f δ = (f δ).bind fun d => if flat d then some d else none := rfl
@[simp] theorem flat_int (i : Int) : flat (.int i) = true := rfl
theorem mod_rng (x : Int) {m : Int} (h : 0 < m) : 0 ≤ x % m ∧ x % m < m := ⟨Int.emod_nonneg _ (by omega), Int.emod_lt_of_pos _ h⟩
@[simp] theorem pow_18 : powI (.int 10) (.int 18) = some (.int (10 ^ 18)) := by rfl
theorem draw_turn (p0 p1 x3 x6 x7 x8 : Option PyData) (rests ds : List Int) (k : Int) (hk : 0 ≤ k) (hd : ds.length ≤ 1000) : ∃ (rests' : List Int) (v : Int) (x6' x7' x8' : Option PyData), lp_law_draws_1 [p0, p1, some (.list (rests.map .int)), x3, some (.list (ds.map .int)), some (.int k), x6, x7, x8] = some (.nx [p0, p1, some (.list (rests'.map .int)), x3, some (.list ((ds ++ [v]).map .int)), some (.int k), x6', x7', x8']) ∧ (0 ≤ v ∧ v ≤ 999) := by
  have app : ∀ (rests' : List Int) (v : Int) (x7 x8 : Option PyData), stApp 4 (vr 6) [p0, p1, some (.list (rests'.map .int)), x3, some (.list (ds.map .int)), some (.int k), some (.int v), x7, x8] = some (.nx [p0, p1, some (.list (rests'.map .int)), x3, some (.list ((ds ++ [v]).map .int)), some (.int k), some (.int v), x7, x8]) := by
    intro rests' v x7 x8
    unfold stApp
    show (if (ds.map PyData.int).length < sizeLine then _ else none) = _
    rw [if_pos (by rw [sizeLine_eq, List.length_map]; omega)]
    simp
  unfold lp_law_draws_1
  rw [sq_e]
  have s1 : stSet 6 (cD (.int 0)) [p0, p1, some (.list (rests.map .int)), x3, some (.list (ds.map .int)), some (.int k), x6, x7, x8] = some (.nx [p0, p1, some (.list (rests.map .int)), x3, some (.list (ds.map .int)), some (.int k), some (.int 0), x7, x8]) := rfl
  rw [s1, Option.bind_some]
  cases hr : rests with
  | nil =>
    refine ⟨[], 0, some (.int 0), x7, x8, ?_, by decide, by decide⟩
    have := app [] 0 x7 x8
    show (sq _ _ _) = _
    rw [sq_e, stIf_e]
    exact this
  | cons a r =>
    rw [← hr]
    have hl : 0 < (rests.length : Int) := by rw [hr, List.length_cons]; omega
    obtain ⟨i, hi⟩ : ∃ i : Nat, k % (rests.length : Int) = i := ⟨(k % (rests.length : Int)).toNat, by have := mod_rng k hl; omega⟩
    have hil : i < rests.length := by have := mod_rng k hl; omega
    have e1 : tB (b2 gtI (bA lenD (aCons (vr 2) aNil)) (cD (.int 0))) [p0, p1, some (.list (rests.map .int)), x3, some (.list (ds.map .int)), some (.int k), some (.int 0), x7, x8] = some true := by
      simp
      omega
    have s2 : stSet 7 (gFlat (b2 modI (bA toI (aCons (vr 5) aNil)) (bA lenD (aCons (vr 2) aNil)))) [p0, p1, some (.list (rests.map .int)), x3, some (.list (ds.map .int)), some (.int k), some (.int 0), x7, x8] = some (.nx [p0, p1, some (.list (rests.map .int)), x3, some (.list (ds.map .int)), some (.int k), some (.int 0), some (.int i), x8]) := by
      simp [modI_e hl, hi]
    have gi : ixD (.list (rests.map .int)) (.int i) = some (.int rests[i]) := ixD_l (by rw [List.getElem?_map, List.getElem?_eq_getElem hil]; rfl)
    obtain ⟨a, ha⟩ : ∃ a, a = rests[i] := ⟨_, rfl⟩
    rw [← ha] at gi
    by_cases c : 10 ^ 18 ≤ a
    · have e2 : tB (b2 geI (b2 ixD (vr 2) (vr 7)) (b2 powI (cD (.int 10)) (cD (.int 18)))) [p0, p1, some (.list (rests.map .int)), x3, some (.list (ds.map .int)), some (.int k), some (.int 0), some (.int i), x8] = some true := by
        have c' : decide ((10 : Int) ^ 18 ≤ a) = true := decide_eq_true c
        have z : b2 ixD (vr 2) (vr 7) [p0, p1, some (.list (rests.map .int)), x3, some (.list (ds.map .int)), some (.int k), some (.int 0), some (.int i), x8] = some (.int a) := gi
        have z3 : b2 powI (cD (.int 10)) (cD (.int 18)) [p0, p1, some (.list (rests.map .int)), x3, some (.list (ds.map .int)), some (.int k), some (.int 0), some (.int i), x8] = some (.int (10 ^ 18)) := pow_18
        rw [tB_e, b2_e, z, Option.bind_some, z3, Option.bind_some, geI_e, c']
        rfl
      have s3 : stSet 6 (gFlat (b2 modI (bA toI (aCons (b2 ixD (vr 2) (vr 7)) aNil)) (cD (.int 1000)))) [p0, p1, some (.list (rests.map .int)), x3, some (.list (ds.map .int)), some (.int k), some (.int 0), some (.int i), x8] = some (.nx [p0, p1, some (.list (rests.map .int)), x3, some (.list (ds.map .int)), some (.int k), some (.int (a % 1000)), some (.int i), x8]) := by
        simp [gi, modI_e]
      have s4 : stPut 2 (gFlat (b2 fdivP (b2 ixD (vr 2) (vr 7)) (cD (.int 1000)))) (vr 7) [p0, p1, some (.list (rests.map .int)), x3, some (.list (ds.map .int)), some (.int k), some (.int (a % 1000)), some (.int i), x8] = some (.nx [p0, p1, some (.list ((rests.set i (a / 1000)).map .int)), x3, some (.list (ds.map .int)), some (.int k), some (.int (a % 1000)), some (.int i), x8]) := by
        have z : gFlat (b2 fdivP (b2 ixD (vr 2) (vr 7)) (cD (.int 1000))) [p0, p1, some (.list (rests.map .int)), x3, some (.list (ds.map .int)), some (.int k), some (.int (a % 1000)), some (.int i), x8] = some (.int (a / 1000)) := by
          simp [gi, fdivP_e]
        have z2 : ixN (rests.map PyData.int).length (i : Int) = some i := by
          unfold ixN
          rw [List.length_map, if_pos (by omega), if_pos (by omega)]
          simp
        unfold stPut
        rw [z]
        show (ixN (rests.map PyData.int).length (i : Int)).map _ = _
        rw [z2, List.map_set]
        rfl
      refine ⟨rests.set i (a / 1000), a % 1000, some (.int (a % 1000)), some (.int i), x8, ?_, by have := mod_rng a (m := 1000) (by decide); omega⟩
      show (sq _ _ _) = _
      rw [sq_e, stIf_e, e1, Option.bind_some, if_pos rfl, sq_e, s2, Option.bind_some]
      show (stIf _ _ _ _).bind _ = _
      rw [stIf_e, e2, Option.bind_some, if_pos rfl, sq_e, s3, Option.bind_some]
      show (stPut _ _ _ _).bind _ = _
      rw [s4, Option.bind_some]
      exact app _ _ _ _
    · have e2 : tB (b2 geI (b2 ixD (vr 2) (vr 7)) (b2 powI (cD (.int 10)) (cD (.int 18)))) [p0, p1, some (.list (rests.map .int)), x3, some (.list (ds.map .int)), some (.int k), some (.int 0), some (.int i), x8] = some false := by
        have c' : decide ((10 : Int) ^ 18 ≤ a) = false := decide_eq_false c
        have z : b2 ixD (vr 2) (vr 7) [p0, p1, some (.list (rests.map .int)), x3, some (.list (ds.map .int)), some (.int k), some (.int 0), some (.int i), x8] = some (.int a) := gi
        have z3 : b2 powI (cD (.int 10)) (cD (.int 18)) [p0, p1, some (.list (rests.map .int)), x3, some (.list (ds.map .int)), some (.int k), some (.int 0), some (.int i), x8] = some (.int (10 ^ 18)) := pow_18
        rw [tB_e, b2_e, z, Option.bind_some, z3, Option.bind_some, geI_e, c']
        rfl
      obtain ⟨m, hm⟩ : ∃ m, m = (a * 48271 + k * 69621 + 11) % 2147483647 := ⟨_, rfl⟩
      obtain ⟨m2, hm2⟩ : ∃ m2, m2 = (m * 16807 + i) % 2147483629 := ⟨_, rfl⟩
      have s3 : stSet 8 (gFlat (b2 modI (bA toI (aCons (b2 addI (b2 addI (b2 mulI (b2 ixD (vr 2) (vr 7)) (cD (.int 48271))) (b2 mulI (vr 5) (cD (.int 69621)))) (cD (.int 11))) aNil)) (cD (.int 2147483647)))) [p0, p1, some (.list (rests.map .int)), x3, some (.list (ds.map .int)), some (.int k), some (.int 0), some (.int i), x8] = some (.nx [p0, p1, some (.list (rests.map .int)), x3, some (.list (ds.map .int)), some (.int k), some (.int 0), some (.int i), some (.int m)]) := by
        have z1 : mulI (.int a) (.int 48271) = some (.int (a * 48271)) := mulI_e (.inr ⟨by decide, by decide⟩)
        have z2 : mulI (.int k) (.int 69621) = some (.int (k * 69621)) := mulI_e (.inr ⟨by decide, by decide⟩)
        have z3 : modI (.int (a * 48271 + k * 69621 + 11)) (.int 2147483647) = some (.int m) := by rw [hm]; exact modI_e (by decide)
        simp [gi, z1, z2, z3]
      have s4 : stSet 8 (b2 modI (bA toI (aCons (b2 addI (b2 mulI (vr 8) (cD (.int 16807))) (vr 7)) aNil)) (cD (.int 2147483629))) [p0, p1, some (.list (rests.map .int)), x3, some (.list (ds.map .int)), some (.int k), some (.int 0), some (.int i), some (.int m)] = some (.nx [p0, p1, some (.list (rests.map .int)), x3, some (.list (ds.map .int)), some (.int k), some (.int 0), some (.int i), some (.int m2)]) := by
        have z1 : mulI (.int m) (.int 16807) = some (.int (m * 16807)) := mulI_e (.inr ⟨by decide, by decide⟩)
        have z3 : modI (.int (m * 16807 + i)) (.int 2147483629) = some (.int m2) := by rw [hm2]; exact modI_e (by decide)
        simp [z1, z3]
      have s5 : stSet 6 (b2 modI (bA toI (aCons (b2 fdivP (vr 8) (cD (.int 7))) aNil)) (cD (.int 1000))) [p0, p1, some (.list (rests.map .int)), x3, some (.list (ds.map .int)), some (.int k), some (.int 0), some (.int i), some (.int m2)] = some (.nx [p0, p1, some (.list (rests.map .int)), x3, some (.list (ds.map .int)), some (.int k), some (.int (m2 / 7 % 1000)), some (.int i), some (.int m2)]) := by
        simp [fdivP_e, modI_e]
      refine ⟨rests, m2 / 7 % 1000, some (.int (m2 / 7 % 1000)), some (.int i), some (.int m2), ?_, by have := mod_rng (m2 / 7) (m := 1000) (by decide); omega⟩
      show (sq _ _ _) = _
      rw [sq_e, stIf_e, e1, Option.bind_some, if_pos rfl, sq_e, s2, Option.bind_some]
      show (stIf _ _ _ _).bind _ = _
      rw [stIf_e, e2, Option.bind_some, if_neg (by decide), sq_e, s3, Option.bind_some]
      show (sq _ _ _).bind _ = _
      rw [sq_e, s4, Option.bind_some]
      show (stSet _ _ _).bind _ = _
      rw [s5, Option.bind_some]
      exact app _ _ _ _
theorem rng_len (a b : Int) : (rng a b).length = (b - a).toNat := by
  unfold rng
  rw [List.length_map, List.length_range]
theorem law_draws_e (ns : List Int) (hn : ns.length ≤ 1000) : ∃ ds : List Int, gS_draws ns 115 = some (.ok (.list (ds.map .int))) ∧ ds.length = 115 ∧ ∀ d ∈ ds, 0 ≤ d ∧ d ≤ 999 := by
  have key : ∀ (ks : List Int) (rests ds : List Int) (x5 x6 x7 x8 : Option PyData), (∀ k ∈ ks, 0 ≤ k) → ds.length + ks.length ≤ 1000 → (∀ d ∈ ds, 0 ≤ d ∧ d ≤ 999) →
      ∃ (ds' : List Int) (y2 y5 y6 y7 y8 : Option PyData), forL (setD 5) lp_law_draws_1 (ks.map .int) [none, some (.int 115), some (.list (rests.map .int)), none, some (.list (ds.map .int)), x5, x6, x7, x8] = some (.nx [none, some (.int 115), y2, none, some (.list (ds'.map .int)), y5, y6, y7, y8]) ∧ ds'.length = ds.length + ks.length ∧ ∀ d ∈ ds', 0 ≤ d ∧ d ≤ 999 := by
    intro ks
    induction ks with
    | nil => intro rests ds x5 x6 x7 x8 _ _ h; exact ⟨ds, _, x5, x6, x7, x8, rfl, rfl, h⟩
    | cons k ks ih =>
      intro rests ds x5 x6 x7 x8 h1 h2 h3
      rw [List.length_cons] at h2
      obtain ⟨rests', v, y6, y7, y8, t, hv⟩ := draw_turn none (some (.int 115)) none x6 x7 x8 rests ds k (h1 k List.mem_cons_self) (by omega)
      obtain ⟨ds', z2, z5, z6, z7, z8, e1, e2, e3⟩ := ih rests' (ds ++ [v]) (some (.int k)) y6 y7 y8 (fun j hj => h1 j (List.mem_cons_of_mem _ hj)) (by simp; omega) (fun d hd => by
        rcases List.mem_append.mp hd with z | z
        · exact h3 d z
        · rw [List.mem_singleton.mp z]; exact hv)
      refine ⟨ds', z2, z5, z6, z7, z8, ?_, by rw [e2]; simp; omega, e3⟩
      rw [List.map_cons]
      unfold forL
      rw [setD_e, Option.bind_some]
      have e : [none, some (.int 115), some (.list (rests.map .int)), none, some (.list (ds.map .int)), x5, x6, x7, x8].set 5 (some (.int k)) = [none, some (.int 115), some (.list (rests.map .int)), none, some (.list (ds.map .int)), some (.int k), x6, x7, x8] := rfl
      rw [e, t, Option.bind_some]
      exact e1
  obtain ⟨ds, y2, y5, y6, y7, y8, e1, e2, e3⟩ := key (rng 0 115) ns [] none none none none (fun k hk => (mem_rng.mp hk).1) (by rw [rng_len]; decide) (by simp)
  refine ⟨ds, ?_, by rw [e2, rng_len]; rfl, e3⟩
  unfold gS_draws hS_draws
  show (sq _ _ [none, some (.int 115), none, none, none, none, none, none, none]).bind outRs = _
  have a1 : cS_draws ns [none, some (.int 115), none, none, none, none, none, none, none] = some (.list (ns.map .int)) := by
    unfold cS_draws
    refine lcD_e (ds := ns.map .int) rfl (by simp; omega) ?_
    exact lc_all (f := PyData.int) _ ns fun i hi => ⟨[none, some (.int 115), none, some (.int i), none, none, none, none, none], by simp [wipeD], by simp⟩
  have b1 : stSet 2 (asL (cS_draws ns)) [none, some (.int 115), none, none, none, none, none, none, none] = some (.nx [none, some (.int 115), some (.list (ns.map .int)), none, none, none, none, none, none]) := by
    rw [stSet_e, asL_e _ _ a1]; rfl
  rw [sq_e, b1, Option.bind_some]
  show (sq _ _ _).bind outRs = _
  have a2 : asL (bA (fun l => (szOk l).map .list) aNil) [none, some (.int 115), some (.list (ns.map .int)), none, none, none, none, none, none] = some (.list []) := asL_e _ _ (by simp)
  have b2 : stSet 4 (asL (bA (fun l => (szOk l).map .list) aNil)) [none, some (.int 115), some (.list (ns.map .int)), none, none, none, none, none, none] = some (.nx [none, some (.int 115), some (.list (ns.map .int)), none, some (.list []), none, none, none, none]) := by
    rw [stSet_e, a2]; rfl
  rw [sq_e, b2, Option.bind_some]
  show (sq _ _ _).bind outRs = _
  have a3 : rng1 (aCons (vr 1) aNil) [none, some (.int 115), some (.list (ns.map .int)), none, some (.list []), none, none, none, none] = some ((rng 0 115).map .int) := rng1_e (by decide) rfl
  rw [sq_e, stFor_e, a3, Option.bind_some]
  have e1' : forL (setD 5) lp_law_draws_1 ((rng 0 115).map .int) [none, some (.int 115), some (.list (ns.map .int)), none, some (.list []), none, none, none, none] = _ := e1
  rw [e1']
  rfl
end Sk
set_option Elab.async false
set_option linter.all false
set_option maxRecDepth 100000
set_option maxHeartbeats 4000000
/-! The law's sky. -/
namespace Sk
open PySem L2 Dl
def dr (ds : List Int) (i : Int) : Int := ds.getD i.toNat 0
theorem ix_dr {ds : List Int} {i : Int} (h : 0 ≤ i ∧ i < ds.length) : ixD (.list (ds.map .int)) (.int i) = some (.int (dr ds i)) := ix_int h
/-- one draw below m -/
theorem mod_dr {ds : List Int} {fd fi fm : Dt → Option PyData} {δ : Dt} {i m : Int} (h1 : fd δ = some (.list (ds.map .int))) (h2 : fi δ = some (.int i)) (hi : 0 ≤ i ∧ i < ds.length) (h3 : fm δ = some (.int m)) (hm : 0 < m) : b2 modI (bA toI (aCons (b2 ixD fd fi) aNil)) fm δ = some (.int (dr ds i % m)) := by
  rw [b2_e, bA_e, aCons_e, b2_e, h1, h2, h3, Option.bind_some, Option.bind_some, ix_dr hi]
  show modI (.int (dr ds i)) (.int m) = _
  exact modI_e hm
theorem app_e {i : Nat} {f : Dt → Option PyData} {δ : Dt} {l : List PyData} {d : PyData} (h1 : (δ[i]?).join = some (.list l)) (h2 : f δ = some d) (hl : l.length < 16777216) : stApp i f δ = some (.nx (δ.set i (some (.list (l ++ [d]))))) := by
  unfold stApp
  rw [h1, h2]
  exact if_pos (by rw [sizeLine_eq]; exact hl)
theorem add_mul {a b : Int} {f : Dt → Option PyData} {δ : Dt} {k : Int} (h : f δ = some (.int k)) (hb : -(2 ^ 64) < b ∧ b < 2 ^ 64) : b2 addI (cD (.int a)) (b2 mulI (cD (.int b)) f) δ = some (.int (a + b * k)) := by
  rw [b2_e, b2_e, h]
  show ((mulI (.int b) (.int k))).bind _ = _
  rw [mulI_e (.inl hb)]
  rfl
theorem ears_loop {ds : List Int} (hd : ds.length = 115) (p1 p2 p3 p8 p9 p10 : Option PyData) : ∀ (ks : List Int) (E : List Ear) (since : Int) (x4 x7 : Option PyData), (∀ k ∈ ks, 0 ≤ k ∧ k < 3) → 0 ≤ since → since + 10 * ks.length ≤ 200 → E.length + ks.length ≤ 1000 → (∀ e ∈ E, EarOk e ∧ e.l ≤ since) → (E.Pairwise fun a b => a.l ≤ b.f) →
    ∃ (E' : List Ear) (y4 y6 y7 : Option PyData), forL (setD 4) lp_law_sky_1 (ks.map .int) [some (.list (ds.map .int)), p1, p2, p3, x4, some (.list (E.map encE)), some (.int since), x7, p8, p9, p10] = some (.nx [some (.list (ds.map .int)), p1, p2, p3, y4, some (.list (E'.map encE)), y6, y7, p8, p9, p10]) ∧ (∀ e ∈ E', EarOk e) ∧ (E'.Pairwise fun a b => a.l ≤ b.f) ∧ E'.length ≤ E.length + ks.length := by
  intro ks
  induction ks with
  | nil => intro E since x4 x7 _ _ _ _ h1 h2; exact ⟨E, x4, _, x7, rfl, fun e he => (h1 e he).1, h2, Nat.le_refl _⟩
  | cons k ks ih =>
    intro E since x4 x7 hk h0 hs hl h1 h2
    rw [List.length_cons] at hs
    have hk0 := hk k List.mem_cons_self
    obtain ⟨a, ha⟩ : ∃ a, a = since + dr ds (10 + 3 * k) % 6 := ⟨_, rfl⟩
    obtain ⟨b, hb⟩ : ∃ b, b = a + 1 + dr ds (11 + 3 * k) % 5 := ⟨_, rfl⟩
    obtain ⟨r, hr⟩ : ∃ r, r = 1 + dr ds (12 + 3 * k) % 3 := ⟨_, rfl⟩
    have m1 := mod_rng (dr ds (10 + 3 * k)) (m := 6) (by decide)
    have m2 := mod_rng (dr ds (11 + 3 * k)) (m := 5) (by decide)
    have m3 := mod_rng (dr ds (12 + 3 * k)) (m := 3) (by decide)
    have s1 : stSet 7 (b2 addI (vr 6) (b2 modI (bA toI (aCons (b2 ixD (vr 0) (b2 addI (cD (.int 10)) (b2 mulI (cD (.int 3)) (vr 4)))) aNil)) (cD (.int 6)))) [some (.list (ds.map .int)), p1, p2, p3, some (.int k), some (.list (E.map encE)), some (.int since), x7, p8, p9, p10] = some (.nx [some (.list (ds.map .int)), p1, p2, p3, some (.int k), some (.list (E.map encE)), some (.int since), some (.int a), p8, p9, p10]) := by
      rw [stSet_e, b2_e, mod_dr (ds := ds) (i := 10 + 3 * k) rfl (add_mul (k := k) rfl (by decide)) (by omega) rfl (by decide), ha]
      rfl
    have s2 : stSet 6 (b2 addI (b2 addI (vr 7) (cD (.int 1))) (b2 modI (bA toI (aCons (b2 ixD (vr 0) (b2 addI (cD (.int 11)) (b2 mulI (cD (.int 3)) (vr 4)))) aNil)) (cD (.int 5)))) [some (.list (ds.map .int)), p1, p2, p3, some (.int k), some (.list (E.map encE)), some (.int since), some (.int a), p8, p9, p10] = some (.nx [some (.list (ds.map .int)), p1, p2, p3, some (.int k), some (.list (E.map encE)), some (.int b), some (.int a), p8, p9, p10]) := by
      rw [stSet_e, b2_e, mod_dr (ds := ds) (i := 11 + 3 * k) rfl (add_mul (k := k) rfl (by decide)) (by omega) rfl (by decide), hb]
      rfl
    have s3 : stApp 5 (bA (fun l => (szOk l).map .tuple) (aCons (vr 7) (aCons (vr 6) (aCons (b2 addI (cD (.int 1)) (b2 modI (bA toI (aCons (b2 ixD (vr 0) (b2 addI (cD (.int 12)) (b2 mulI (cD (.int 3)) (vr 4)))) aNil)) (cD (.int 3)))) aNil)))) [some (.list (ds.map .int)), p1, p2, p3, some (.int k), some (.list (E.map encE)), some (.int b), some (.int a), p8, p9, p10] = some (.nx [some (.list (ds.map .int)), p1, p2, p3, some (.int k), some (.list ((E ++ [(Ear.mk a b r)]).map encE)), some (.int b), some (.int a), p8, p9, p10]) := by
      have z : bA (fun l => (szOk l).map .tuple) (aCons (vr 7) (aCons (vr 6) (aCons (b2 addI (cD (.int 1)) (b2 modI (bA toI (aCons (b2 ixD (vr 0) (b2 addI (cD (.int 12)) (b2 mulI (cD (.int 3)) (vr 4)))) aNil)) (cD (.int 3)))) aNil))) [some (.list (ds.map .int)), p1, p2, p3, some (.int k), some (.list (E.map encE)), some (.int b), some (.int a), p8, p9, p10] = some (encE (Ear.mk a b r)) := by
        rw [bA_e, aCons_e, aCons_e, aCons_e, b2_e, mod_dr (ds := ds) (i := 12 + 3 * k) rfl (add_mul (k := k) rfl (by decide)) (by omega) rfl (by decide)]
        show ((szOk [PyData.int a, .int b, .int (1 + dr ds (12 + 3 * k) % 3)]).map PyData.tuple) = _
        rw [szOk_3, ← hr]
        rfl
      rw [app_e rfl z (by simp; omega), List.map_append]
      rfl
    have body : lp_law_sky_1 ([some (.list (ds.map .int)), p1, p2, p3, x4, some (.list (E.map encE)), some (.int since), x7, p8, p9, p10].set 4 (some (.int k))) = some (.nx [some (.list (ds.map .int)), p1, p2, p3, some (.int k), some (.list ((E ++ [(Ear.mk a b r)]).map encE)), some (.int b), some (.int a), p8, p9, p10]) := by
      show lp_law_sky_1 [some (.list (ds.map .int)), p1, p2, p3, some (.int k), some (.list (E.map encE)), some (.int since), x7, p8, p9, p10] = _
      unfold lp_law_sky_1
      rw [sq_e, s1, Option.bind_some]
      show sq _ _ _ = _
      rw [sq_e, s2, Option.bind_some]
      exact s3
    obtain ⟨E', y4, y6, y7, e1, e2, e3, e4⟩ := ih (E ++ [(Ear.mk a b r)]) b (some (.int k)) (some (.int a)) (fun j hj => hk j (List.mem_cons_of_mem _ hj)) (by omega) (by omega) (by
        rw [List.length_append, List.length_singleton]
        rw [List.length_cons] at hl
        omega) (fun e he => by
        rcases List.mem_append.mp he with z | z
        · have := h1 e z
          exact ⟨this.1, by omega⟩
        · rw [List.mem_singleton.mp z]
          exact ⟨⟨⟨by show 0 ≤ a; omega, by show a < b; omega, by show b ≤ 200; omega⟩, by show 1 ≤ r; omega, by show r ≤ 30; omega⟩, Int.le_refl _⟩) (by
        rw [List.pairwise_append]
        refine ⟨h2, List.pairwise_singleton _ _, fun x hx y hy => ?_⟩
        rw [List.mem_singleton.mp hy]
        have := (h1 x hx).2
        show x.l ≤ a
        omega)
    refine ⟨E', y4, y6, y7, ?_, e2, e3, by rw [List.length_append, List.length_singleton] at e4; rw [List.length_cons]; omega⟩
    rw [List.map_cons]
    unfold forL
    rw [setD_e, Option.bind_some, body, Option.bind_some]
    exact e1
theorem looks_loop {ds : List Int} (hd : ds.length = 115) {many : Int} (hm : 0 < many) (p1 p3 p5 p6 p7 : Option PyData) : ∀ (ks : List Int) (E : List Look) (start : Int) (x4 x10 : Option PyData), (∀ k ∈ ks, 0 ≤ k ∧ k < 5) → 0 ≤ start → start + 3 * ks.length ≤ 200 → E.length + ks.length ≤ 1000 → (∀ e ∈ E, LookOk many e ∧ e.s ≤ start) → (E.Pairwise fun a b => a.s ≤ b.s) →
    ∃ (E' : List Look) (y4 y9 y10 : Option PyData), forL (setD 4) lp_law_sky_2 (ks.map .int) [some (.list (ds.map .int)), p1, some (.int many), p3, x4, p5, p6, p7, some (.list (E.map encL)), some (.int start), x10] = some (.nx [some (.list (ds.map .int)), p1, some (.int many), p3, y4, p5, p6, p7, some (.list (E'.map encL)), y9, y10]) ∧ (∀ e ∈ E', LookOk many e) ∧ (E'.Pairwise fun a b => a.s ≤ b.s) ∧ E'.length ≤ E.length + ks.length := by
  intro ks
  induction ks with
  | nil => intro E start x4 x10 _ _ _ _ h1 h2; exact ⟨E, x4, _, x10, rfl, fun e he => (h1 e he).1, h2, Nat.le_refl _⟩
  | cons k ks ih =>
    intro E start x4 x10 hk h0 hs hl h1 h2
    rw [List.length_cons] at hs hl
    have hk0 := hk k List.mem_cons_self
    obtain ⟨s, hs'⟩ : ∃ s, s = start + dr ds (20 + 5 * k) % 4 := ⟨_, rfl⟩
    obtain ⟨a, ha⟩ : ∃ a, a = dr ds (23 + 5 * k) % 61 - 30 := ⟨_, rfl⟩
    obtain ⟨w, hw⟩ : ∃ w, w = dr ds (21 + 5 * k) % many := ⟨_, rfl⟩
    obtain ⟨n, hn⟩ : ∃ n, n = 1 + dr ds (22 + 5 * k) % 3 := ⟨_, rfl⟩
    obtain ⟨z, hz⟩ : ∃ z, z = 1 + dr ds (24 + 5 * k) % 4 := ⟨_, rfl⟩
    have m1 := mod_rng (dr ds (20 + 5 * k)) (m := 4) (by decide)
    have m2 := mod_rng (dr ds (23 + 5 * k)) (m := 61) (by decide)
    have m3 := mod_rng (dr ds (21 + 5 * k)) hm
    have m4 := mod_rng (dr ds (22 + 5 * k)) (m := 3) (by decide)
    have m5 := mod_rng (dr ds (24 + 5 * k)) (m := 4) (by decide)
    have s1 : stSet 9 (b2 addI (vr 9) (b2 modI (bA toI (aCons (b2 ixD (vr 0) (b2 addI (cD (.int 20)) (b2 mulI (cD (.int 5)) (vr 4)))) aNil)) (cD (.int 4)))) [some (.list (ds.map .int)), p1, some (.int many), p3, some (.int k), p5, p6, p7, some (.list (E.map encL)), some (.int start), x10] = some (.nx [some (.list (ds.map .int)), p1, some (.int many), p3, some (.int k), p5, p6, p7, some (.list (E.map encL)), some (.int s), x10]) := by
      rw [stSet_e, b2_e, mod_dr (ds := ds) (i := 20 + 5 * k) rfl (add_mul (k := k) rfl (by decide)) (by omega) rfl (by decide), hs']
      rfl
    have s2 : stSet 10 (b2 subI (b2 modI (bA toI (aCons (b2 ixD (vr 0) (b2 addI (cD (.int 23)) (b2 mulI (cD (.int 5)) (vr 4)))) aNil)) (cD (.int 61))) (cD (.int 30))) [some (.list (ds.map .int)), p1, some (.int many), p3, some (.int k), p5, p6, p7, some (.list (E.map encL)), some (.int s), x10] = some (.nx [some (.list (ds.map .int)), p1, some (.int many), p3, some (.int k), p5, p6, p7, some (.list (E.map encL)), some (.int s), some (.int a)]) := by
      rw [stSet_e, b2_e, mod_dr (ds := ds) (i := 23 + 5 * k) rfl (add_mul (k := k) rfl (by decide)) (by omega) rfl (by decide), ha]
      rfl
    have s3 : stApp 8 (bA (fun l => (szOk l).map .tuple) (aCons (b2 modI (bA toI (aCons (b2 ixD (vr 0) (b2 addI (cD (.int 21)) (b2 mulI (cD (.int 5)) (vr 4)))) aNil)) (vr 2)) (aCons (vr 9) (aCons (b2 addI (cD (.int 1)) (b2 modI (bA toI (aCons (b2 ixD (vr 0) (b2 addI (cD (.int 22)) (b2 mulI (cD (.int 5)) (vr 4)))) aNil)) (cD (.int 3)))) (aCons (vr 10) (aCons (b2 addI (cD (.int 1)) (b2 modI (bA toI (aCons (b2 ixD (vr 0) (b2 addI (cD (.int 24)) (b2 mulI (cD (.int 5)) (vr 4)))) aNil)) (cD (.int 4)))) aNil)))))) [some (.list (ds.map .int)), p1, some (.int many), p3, some (.int k), p5, p6, p7, some (.list (E.map encL)), some (.int s), some (.int a)] = some (.nx [some (.list (ds.map .int)), p1, some (.int many), p3, some (.int k), p5, p6, p7, some (.list ((E ++ [Look.mk w s n a z]).map encL)), some (.int s), some (.int a)]) := by
      have z : bA (fun l => (szOk l).map .tuple) (aCons (b2 modI (bA toI (aCons (b2 ixD (vr 0) (b2 addI (cD (.int 21)) (b2 mulI (cD (.int 5)) (vr 4)))) aNil)) (vr 2)) (aCons (vr 9) (aCons (b2 addI (cD (.int 1)) (b2 modI (bA toI (aCons (b2 ixD (vr 0) (b2 addI (cD (.int 22)) (b2 mulI (cD (.int 5)) (vr 4)))) aNil)) (cD (.int 3)))) (aCons (vr 10) (aCons (b2 addI (cD (.int 1)) (b2 modI (bA toI (aCons (b2 ixD (vr 0) (b2 addI (cD (.int 24)) (b2 mulI (cD (.int 5)) (vr 4)))) aNil)) (cD (.int 4)))) aNil))))) [some (.list (ds.map .int)), p1, some (.int many), p3, some (.int k), p5, p6, p7, some (.list (E.map encL)), some (.int s), some (.int a)] = some (encL (Look.mk w s n a z)) := by
        rw [bA_e, aCons_e, mod_dr (ds := ds) (i := 21 + 5 * k) (m := many) rfl (add_mul (k := k) rfl (by decide)) (by omega) rfl hm, aCons_e, aCons_e, b2_e, mod_dr (ds := ds) (i := 22 + 5 * k) rfl (add_mul (k := k) rfl (by decide)) (by omega) rfl (by decide), aCons_e, aCons_e, b2_e, mod_dr (ds := ds) (i := 24 + 5 * k) rfl (add_mul (k := k) rfl (by decide)) (by omega) rfl (by decide)]
        show ((szOk [PyData.int (dr ds (21 + 5 * k) % many), .int s, .int (1 + dr ds (22 + 5 * k) % 3), .int a, .int (1 + dr ds (24 + 5 * k) % 4)]).map PyData.tuple) = _
        rw [szOk_5, ← hw, ← hn, ← hz]
        rfl
      rw [app_e rfl z (by simp; omega), List.map_append]
      rfl
    have body : lp_law_sky_2 ([some (.list (ds.map .int)), p1, some (.int many), p3, x4, p5, p6, p7, some (.list (E.map encL)), some (.int start), x10].set 4 (some (.int k))) = some (.nx [some (.list (ds.map .int)), p1, some (.int many), p3, some (.int k), p5, p6, p7, some (.list ((E ++ [Look.mk w s n a z]).map encL)), some (.int s), some (.int a)]) := by
      show lp_law_sky_2 [some (.list (ds.map .int)), p1, some (.int many), p3, some (.int k), p5, p6, p7, some (.list (E.map encL)), some (.int start), x10] = _
      unfold lp_law_sky_2
      rw [sq_e, s1, Option.bind_some]
      show sq _ _ _ = _
      rw [sq_e, s2, Option.bind_some]
      exact s3
    obtain ⟨E', y4, y9, y10, e1, e2, e3, e4⟩ := ih (E ++ [Look.mk w s n a z]) s (some (.int k)) (some (.int a)) (fun j hj => hk j (List.mem_cons_of_mem _ hj)) (by omega) (by omega) (by
        rw [List.length_append, List.length_singleton]
        omega) (fun e he => by
        rcases List.mem_append.mp he with y | y
        · have := h1 e y
          exact ⟨this.1, by omega⟩
        · rw [List.mem_singleton.mp y]
          exact ⟨⟨⟨by show 0 ≤ w; omega, by show w < many; omega⟩, ⟨by show 0 ≤ s; omega, by show s ≤ 200; omega⟩, ⟨by show 1 ≤ n; omega, by show n ≤ 20; omega⟩, ⟨by show -90 ≤ a; omega, by show a ≤ 90; omega⟩, ⟨by show 1 ≤ z; omega, by show z ≤ 30; omega⟩⟩, Int.le_refl _⟩) (by
        rw [List.pairwise_append]
        refine ⟨h2, List.pairwise_singleton _ _, fun x hx y hy => ?_⟩
        rw [List.mem_singleton.mp hy]
        have := (h1 x hx).2
        show x.s ≤ s
        omega)
    refine ⟨E', y4, y9, y10, ?_, e2, e3, by rw [List.length_append, List.length_singleton] at e4; rw [List.length_cons]; omega⟩
    rw [List.map_cons]
    unfold forL
    rw [setD_e, Option.bind_some, body, Option.bind_some]
    exact e1
theorem law_sky_e {ds : List Int} (hd : ds.length = 115) : ∃ S, f_law_sky [.list (ds.map .int), .int 4] = some (.ok (encS' S)) ∧ Chk S := by
  have m0 := mod_rng (dr ds 0) (m := 4) (by decide)
  have m9 := mod_rng (dr ds 9) (m := 3) (by decide)
  have m16 := mod_rng (dr ds 16) (m := 5) (by decide)
  have m7 := mod_rng (dr ds 7) (m := 7) (by decide)
  have m8 := mod_rng (dr ds 8) (m := 30) (by decide)
  obtain ⟨many, hmany⟩ : ∃ m, m = 1 + dr ds 0 % 4 := ⟨_, rfl⟩
  obtain ⟨W, hW⟩ : ∃ W : List Int, W = (rng 0 many).map fun k => dr ds (1 + k) % 10 := ⟨_, rfl⟩
  have hWl : W.length = many.toNat := by rw [hW, List.length_map, rng_len]; congr 1; omega
  obtain ⟨E, y4, y6, y7, t1, t2, t3, t4⟩ := ears_loop hd (some (.int 4)) (some (.int many)) (some (.list (W.map .int))) none none none (rng 0 (dr ds 9 % 3)) [] 0 (none) none (fun k hk => by have := mem_rng.mp hk; omega) (Int.le_refl _) (by rw [rng_len]; omega) (by rw [rng_len]; simp; omega) (by simp) List.Pairwise.nil
  obtain ⟨L, z4, z9, z10, u1, u2, u3, u4⟩ := looks_loop hd (many := many) (by omega) (some (.int 4)) (some (.list (W.map .int))) (some (.list (E.map encE))) y6 y7 (rng 0 (dr ds 16 % 5)) [] 0 y4 none (fun k hk => by have := mem_rng.mp hk; omega) (Int.le_refl _) (by rw [rng_len]; omega) (by rw [rng_len]; simp; omega) (by simp) List.Pairwise.nil
  rw [rng_len] at t4 u4
  refine ⟨⟨L, W, E, 2 + dr ds 7 % 7, 1 + dr ds 8 % 30⟩, ?_, ⟨⟨?_, ?_, ?_, ?_, u3, ?_, fun e he => t2 e he, ?_, ?_⟩, t3⟩⟩
  · unfold f_law_sky h_law_sky runP
    show (sq _ _ [some (.list (ds.map .int)), some (.int 4), none, none, none, none, none, none, none, none, none]).bind outRs = _
    have s1 : stSet 2 (b2 addI (cD (.int 1)) (b2 modI (bA toI (aCons (b2 ixD (vr 0) (cD (.int 0))) aNil)) (cD (.int 4)))) [some (.list (ds.map .int)), some (.int 4), none, none, none, none, none, none, none, none, none] = some (.nx [some (.list (ds.map .int)), some (.int 4), some (.int many), none, none, none, none, none, none, none, none]) := by
      rw [stSet_e, b2_e, mod_dr (ds := ds) (i := 0) rfl rfl (by omega) rfl (by decide), hmany]
      rfl
    rw [sq_e, s1, Option.bind_some]
    show (sq _ _ _).bind outRs = _
    have a2 : cp_law_sky_1 [some (.list (ds.map .int)), some (.int 4), some (.int many), none, none, none, none, none, none, none, none] = some (.list (W.map .int)) := by
      unfold cp_law_sky_1
      rw [hW, List.map_map]
      refine lcD_e (ds := (rng 0 many).map .int) (rng1_e (by omega) rfl) (by rw [List.length_map, rng_len]; omega) ?_
      refine lc_all (f := PyData.int) _ (rng 0 many) fun k hk => ⟨[some (.list (ds.map .int)), some (.int 4), some (.int many), none, some (.int k), none, none, none, none, none, none], by simp [wipeD], ?_⟩
      have := mem_rng.mp hk
      exact mod_dr (ds := ds) (i := 1 + k) rfl rfl (by omega) rfl (by decide)
    have s2 : stSet 3 (asL cp_law_sky_1) [some (.list (ds.map .int)), some (.int 4), some (.int many), none, none, none, none, none, none, none, none] = some (.nx [some (.list (ds.map .int)), some (.int 4), some (.int many), some (.list (W.map .int)), none, none, none, none, none, none, none]) := by
      rw [stSet_e, asL_e _ _ a2]; rfl
    rw [sq_e, s2, Option.bind_some]
    show (sq _ _ _).bind outRs = _
    have a3 : ∀ δ : Dt, asL (bA (fun l => (szOk l).map .list) aNil) δ = some (.list []) := fun δ => asL_e _ _ (by simp)
    have s3 : stSet 5 (asL (bA (fun l => (szOk l).map .list) aNil)) [some (.list (ds.map .int)), some (.int 4), some (.int many), some (.list (W.map .int)), none, none, none, none, none, none, none] = some (.nx [some (.list (ds.map .int)), some (.int 4), some (.int many), some (.list (W.map .int)), none, some (.list []), none, none, none, none, none]) := by
      rw [stSet_e, a3]; rfl
    rw [sq_e, s3, Option.bind_some]
    show (sq _ _ _).bind outRs = _
    have s4 : stSet 6 (cD (.int 0)) [some (.list (ds.map .int)), some (.int 4), some (.int many), some (.list (W.map .int)), none, some (.list []), none, none, none, none, none] = some (.nx [some (.list (ds.map .int)), some (.int 4), some (.int many), some (.list (W.map .int)), none, some (.list []), some (.int 0), none, none, none, none]) := rfl
    rw [sq_e, s4, Option.bind_some]
    show (sq _ _ _).bind outRs = _
    have r5 : rng1 (aCons (b2 modI (bA toI (aCons (b2 ixD (vr 0) (cD (.int 9))) aNil)) (cD (.int 3))) aNil) [some (.list (ds.map .int)), some (.int 4), some (.int many), some (.list (W.map .int)), none, some (.list []), some (.int 0), none, none, none, none] = some ((rng 0 (dr ds 9 % 3)).map .int) := by
      refine rng1_e (by omega) ?_
      rw [aCons_e, mod_dr (ds := ds) (i := 9) rfl rfl (by omega) rfl (by decide)]
      rfl
    have t1' : forL (setD 4) lp_law_sky_1 ((rng 0 (dr ds 9 % 3)).map .int) [some (.list (ds.map .int)), some (.int 4), some (.int many), some (.list (W.map .int)), none, some (.list []), some (.int 0), none, none, none, none] = _ := t1
    rw [sq_e, stFor_e, r5, Option.bind_some, t1', Option.bind_some]
    show (sq _ _ _).bind outRs = _
    have s6 : stSet 8 (asL (bA (fun l => (szOk l).map .list) aNil)) [some (.list (ds.map .int)), some (.int 4), some (.int many), some (.list (W.map .int)), y4, some (.list (E.map encE)), y6, y7, none, none, none] = some (.nx [some (.list (ds.map .int)), some (.int 4), some (.int many), some (.list (W.map .int)), y4, some (.list (E.map encE)), y6, y7, some (.list []), none, none]) := by
      rw [stSet_e, a3]; rfl
    rw [sq_e, s6, Option.bind_some]
    show (sq _ _ _).bind outRs = _
    have s7 : stSet 9 (cD (.int 0)) [some (.list (ds.map .int)), some (.int 4), some (.int many), some (.list (W.map .int)), y4, some (.list (E.map encE)), y6, y7, some (.list []), none, none] = some (.nx [some (.list (ds.map .int)), some (.int 4), some (.int many), some (.list (W.map .int)), y4, some (.list (E.map encE)), y6, y7, some (.list []), some (.int 0), none]) := rfl
    rw [sq_e, s7, Option.bind_some]
    show (sq _ _ _).bind outRs = _
    have r8 : rng1 (aCons (b2 modI (bA toI (aCons (b2 ixD (vr 0) (cD (.int 16))) aNil)) (b2 addI (vr 1) (cD (.int 1)))) aNil) [some (.list (ds.map .int)), some (.int 4), some (.int many), some (.list (W.map .int)), y4, some (.list (E.map encE)), y6, y7, some (.list []), some (.int 0), none] = some ((rng 0 (dr ds 16 % 5)).map .int) := by
      refine rng1_e (by omega) ?_
      rw [aCons_e, mod_dr (ds := ds) (i := 16) (m := 5) rfl rfl (by omega) rfl (by decide)]
      rfl
    have u1' : forL (setD 4) lp_law_sky_2 ((rng 0 (dr ds 16 % 5)).map .int) [some (.list (ds.map .int)), some (.int 4), some (.int many), some (.list (W.map .int)), y4, some (.list (E.map encE)), y6, y7, some (.list []), some (.int 0), none] = _ := u1
    rw [sq_e, stFor_e, r8, Option.bind_some, u1', Option.bind_some]
    show (stRet _ _).bind outRs = _
    rw [stRet_e, bA_e, aCons_e, aCons_e, aCons_e, aCons_e, b2_e, mod_dr (ds := ds) (i := 7) rfl rfl (by omega) rfl (by decide), aCons_e, b2_e, mod_dr (ds := ds) (i := 8) rfl rfl (by omega) rfl (by decide)]
    show (((szOk [PyData.list (L.map encL), .list (W.map .int), .list (E.map encE), .int (2 + dr ds 7 % 7), .int (1 + dr ds 8 % 30)]).map PyData.tuple).map _).bind outRs = _
    rw [szOk_5]
    rfl
  · show 1 ≤ W.length ∧ W.length ≤ 6
    omega
  · intro w hw
    have hw : w ∈ W := hw
    rw [hW] at hw
    obtain ⟨k, _, rfl⟩ := List.mem_map.mp hw
    have := mod_rng (dr ds (1 + k)) (m := 10) (by decide)
    omega
  · show L.length ≤ 16
    simp at u4
    omega
  · intro l hl
    have := u2 l hl
    show (0 ≤ l.w ∧ l.w < (W.length : Int)) ∧ _
    rw [hWl]
    have e : ((many.toNat : Nat) : Int) = many := by omega
    rw [e]
    exact this
  · show E.length ≤ 4
    simp at t4
    omega
  · show 1 ≤ 2 + dr ds 7 % 7 ∧ 2 + dr ds 7 % 7 ≤ 30
    omega
  · show 1 ≤ 1 + dr ds 8 % 30 ∧ 1 + dr ds 8 % 30 ≤ 90
    omega
end Sk
set_option Elab.async false
set_option linter.all false
set_option maxRecDepth 100000
set_option maxHeartbeats 4000000
/-! The law's turn, worth, loss. -/
namespace Sk
open PySem L2 Dl
theorem turn_facts {d t : Int} (ht : 1 ≤ t) (hd : 0 ≤ d ∧ d ≤ 180) : (0 ≤ -(-d / t) ∧ -(-d / t) ≤ 180) ∧ ∀ x : Int, d ≤ x * t ↔ -(-d / t) ≤ x := by
  obtain ⟨q, hq⟩ : ∃ q, q = -d / t := ⟨_, rfl⟩
  rw [← hq]
  have h1 : q * t ≤ -d := by rw [hq]; exact Int.ediv_mul_le _ (by omega)
  have h2 : -d < (q + 1) * t := by rw [hq]; exact Int.lt_ediv_add_one_mul_self _ (by omega)
  have key : ∀ x : Int, d ≤ x * t ↔ -q ≤ x := by
    intro x
    constructor
    · intro h
      by_cases c : -q ≤ x
      · exact c
      · have c2 : x ≤ -(q + 1) := by omega
        have c3 : x * t ≤ -(q + 1) * t := Int.mul_le_mul_of_nonneg_right c2 (by omega)
        rw [Int.neg_mul] at c3
        omega
    · intro h
      have c3 : -q * t ≤ x * t := Int.mul_le_mul_of_nonneg_right h (by omega)
      rw [Int.neg_mul] at c3
      omega
  refine ⟨⟨?_, ?_⟩, key⟩
  · by_cases c : 0 ≤ -q
    · exact c
    · have c2 : 1 ≤ q := by omega
      have c3 : 1 * t ≤ q * t := Int.mul_le_mul_of_nonneg_right c2 (by omega)
      omega
  · refine (key 180).mp ?_
    have : 180 * 1 ≤ 180 * t := Int.mul_le_mul_of_nonneg_left ht (by decide)
    omega
theorem law_turn_e {S : Sky} (v : Valid S) {i j : Int} (hi : S.has i) (hj : S.has j) : f_law_turn [encS' S, .int i, .int j] = some (.ok (.int (S.turning i j))) := by
  have l1 := (v.lk _ (at_mem hi)).2.2.2.1
  have l2 := (v.lk _ (at_mem hj)).2.2.2.1
  have ht := v.tn
  obtain ⟨d, hd⟩ : ∃ d, d = (if (S.at j).a - (S.at i).a < 0 then -((S.at j).a - (S.at i).a) else (S.at j).a - (S.at i).a) := ⟨_, rfl⟩
  have hd2 : 0 ≤ d ∧ d ≤ 180 := by rw [hd]; split <;> omega
  obtain ⟨⟨f1, f2⟩, f3⟩ := turn_facts ht.1 hd2
  have hT : S.turning i j = -(-d / S.turn) := by unfold Sky.turning; rw [hd]
  rw [← hT] at f1 f2 f3
  obtain ⟨T, hT2⟩ : ∃ T, T = S.turning i j := ⟨_, rfl⟩
  rw [← hT2] at f1 f2 f3 ⊢
  have cond : ∀ (x : Int) (x4 : Option PyData), tB (b2 geI (b2 mulI (vr 3) (b2 ixD (vr 0) (cD (.int 4)))) (bA absI (aCons (b2 subI (b2 ixD (b2 ixD (b2 ixD (vr 0) (cD (.int 0))) (vr 2)) (cD (.int 3))) (b2 ixD (b2 ixD (b2 ixD (vr 0) (cD (.int 0))) (vr 1)) (cD (.int 3)))) aNil))) [some (encS' S), some (.int i), some (.int j), some (.int x), x4] = some (decide (T ≤ x)) := by
    intro x x4
    have z1 : b2 mulI (vr 3) (b2 ixD (vr 0) (cD (.int 4))) [some (encS' S), some (.int i), some (.int j), some (.int x), x4] = some (.int (x * S.turn)) := by
      have : ixD (encS' S) (.int 4) = some (.int S.turn) := by simp [encS']
      rw [b2_e, b2_e]
      show (((ixD (encS' S) (.int 4))).bind fun y => mulI (.int x) y) = _
      rw [this, Option.bind_some, mulI_e (.inr ⟨by omega, by omega⟩)]
    have z2 : bA absI (aCons (b2 subI (b2 ixD (b2 ixD (b2 ixD (vr 0) (cD (.int 0))) (vr 2)) (cD (.int 3))) (b2 ixD (b2 ixD (b2 ixD (vr 0) (cD (.int 0))) (vr 1)) (cD (.int 3)))) aNil) [some (encS' S), some (.int i), some (.int j), some (.int x), x4] = some (.int d) := by
      simp [getL, ix_look hi, ix_look hj, encL, hd]
    rw [tB_e, b2_e, z1, z2, Option.bind_some, Option.bind_some, geI_e, Option.bind_some]
    show some (decide (d ≤ x * S.turn)) = _
    rw [iff_dec (f3 x)]
  have key : ∀ (ks : List Int) (x : Int) (x4 : Option PyData), x ≤ T → T - x ≤ ks.length → ∃ y4, forL (setD 4) lp_law_turn_1 (ks.map .int) [some (encS' S), some (.int i), some (.int j), some (.int x), x4] = some (.nx [some (encS' S), some (.int i), some (.int j), some (.int T), y4]) := by
    intro ks
    induction ks with
    | nil =>
      intro x x4 h1 h2
      have : x = T := by simp at h2; omega
      exact ⟨x4, by rw [this]; rfl⟩
    | cons k ks ih =>
      intro x x4 h1 h2
      rw [List.length_cons] at h2
      rw [List.map_cons]
      unfold forL
      rw [setD_e, Option.bind_some]
      show ∃ y4, (lp_law_turn_1 [some (encS' S), some (.int i), some (.int j), some (.int x), some (.int k)]).bind _ = _
      by_cases c : T ≤ x
      · have e : lp_law_turn_1 [some (encS' S), some (.int i), some (.int j), some (.int x), some (.int k)] = some (.bk [some (encS' S), some (.int i), some (.int j), some (.int x), some (.int k)]) := by
          unfold lp_law_turn_1
          rw [sq_e, stIf_e, cond, Option.bind_some, decide_eq_true c, if_pos rfl]
          rfl
        rw [e, Option.bind_some]
        have : x = T := by omega
        exact ⟨some (.int k), by rw [this]⟩
      · have e : lp_law_turn_1 [some (encS' S), some (.int i), some (.int j), some (.int x), some (.int k)] = some (.nx [some (encS' S), some (.int i), some (.int j), some (.int (x + 1)), some (.int k)]) := by
          unfold lp_law_turn_1
          rw [sq_e, stIf_e, cond, Option.bind_some, decide_eq_false c, if_neg (by decide)]
          rfl
        rw [e, Option.bind_some]
        exact ih (x + 1) _ (by omega) (by omega)
  obtain ⟨y4, t⟩ := key (rng 0 200) 0 none f1 (by rw [rng_len]; omega)
  unfold f_law_turn h_law_turn runP
  show (sq _ _ [some (encS' S), some (.int i), some (.int j), none, none]).bind outRs = _
  have s1 : stSet 3 (cD (.int 0)) [some (encS' S), some (.int i), some (.int j), none, none] = some (.nx [some (encS' S), some (.int i), some (.int j), some (.int 0), none]) := rfl
  rw [sq_e, s1, Option.bind_some]
  show (sq _ _ _).bind outRs = _
  have r1 : rng1 (aCons (cD (.int 200)) aNil) [some (encS' S), some (.int i), some (.int j), some (.int 0), none] = some ((rng 0 200).map .int) := rng1_e (by decide) rfl
  rw [sq_e, stFor_e, r1, Option.bind_some, t]
  rfl
/-! ### worth -/
theorem rng_succ (n : Nat) : rng 0 ((n + 1 : Nat) : Int) = rng 0 (n : Int) ++ [(n : Int)] := by
  unfold rng
  have e1 : (((n + 1 : Nat) : Int) - 0).toNat = n + 1 := by omega
  have e2 : ((n : Int) - 0).toNat = n := by omega
  rw [e1, e2, List.range_succ, List.map_append]
  simp
theorem wSum_rng (W ws : List Int) : ∀ n : Nat, (((rng 0 (n : Int)).filter fun k => decide (k ∈ ws)).map fun k => W.getD k.toNat 0).sum = wSum W ws n
  | 0 => rfl
  | n + 1 => by
    rw [rng_succ, List.filter_append, List.map_append, List.sum_append, wSum_rng W ws n]
    unfold wSum
    by_cases c : (n : Int) ∈ ws
    · rw [List.filter_cons_of_pos (by simpa using c), if_pos c]
      simp
      cases n <;> rfl
    · rw [List.filter_cons_of_neg (by simpa using c), if_neg c]
      simp
      cases n <;> rfl
theorem law_worth_e {S : Sky} (v : Valid S) {p : List Int} (hp : ∀ i ∈ p, S.has i) (hl : p.length ≤ 1000) : f_law_worth [encS' S, encR p] = some (.ok (.int (S.worth p))) := by
  have hw := v.nw
  obtain ⟨ws, hws⟩ : ∃ ws, ws = p.map S.wish := ⟨_, rfl⟩
  have a1 : cp_law_worth_1 [some (encS' S), some (encR p), none, none, none] = some (.list (ws.map .int)) := by
    unfold cp_law_worth_1
    rw [hws, List.map_map]
    refine lcD_e (ds := p.map .int) rfl (by simp; omega) ?_
    refine lc_all (f := PyData.int) _ p fun i hi => ⟨[some (encS' S), some (encR p), none, some (.int i), none], by simp [wipeD], ?_⟩
    simp [getL, ix_look (hp i hi), encL, Sky.wish]
  obtain ⟨L, hL⟩ : ∃ L, L = ((rng 0 (S.worths.length : Int)).filter fun k => decide (k ∈ ws)).map fun k => S.worths.getD k.toNat 0 := ⟨_, rfl⟩
  have a2 : cp_law_worth_2 [some (encS' S), some (encR p), some (.list (ws.map .int)), none, none] = some (.list (L.map .int)) := by
    unfold cp_law_worth_2
    rw [hL, List.map_map]
    have r : rng1 (aCons (bA lenD (aCons (b2 ixD (vr 0) (cD (.int 1))) aNil)) aNil) [some (encS' S), some (encR p), some (.list (ws.map .int)), none, none] = some ((rng 0 (S.worths.length : Int)).map .int) := by
      refine rng1_e (by omega) ?_
      rw [aCons_e, bA_e, aCons_e, b2_e]
      show ((((((ixD (encS' S) (.int 1))).bind fun d => some [d])).bind lenD).bind fun d => some [d]) = _
      rw [getW]
      simp
    refine lcD_e (ds := (rng 0 (S.worths.length : Int)).map .int) r (by rw [List.length_map, rng_len]; omega) ?_
    refine lc_map (f := PyData.int) _ _ (rng 0 (S.worths.length : Int)) fun k hk => ⟨[some (encS' S), some (encR p), some (.list (ws.map .int)), none, some (.int k)], by simp [wipeD], ?_, fun _ => ?_⟩
    · rw [tB_e, b2_e]
      show ((inD (.int k) (.list (ws.map .int)))).bind _ = _
      rw [inD_ints]
      rfl
    · have z := ix_int (l := S.worths) (mem_rng.mp hk)
      rw [b2_e, b2_e]
      show ((ixD (encS' S) (.int 1)).bind fun y => ixD y (.int k)) = _
      rw [getW, Option.bind_some, z]
      rfl
  unfold f_law_worth h_law_worth runP
  show (sq _ _ [some (encS' S), some (encR p), none, none, none]).bind outRs = _
  have s1 : stSet 2 (asL cp_law_worth_1) [some (encS' S), some (encR p), none, none, none] = some (.nx [some (encS' S), some (encR p), some (.list (ws.map .int)), none, none]) := by
    rw [stSet_e, asL_e _ _ a1]; rfl
  rw [sq_e, s1, Option.bind_some]
  show (stRet _ _).bind outRs = _
  rw [stRet_e, bA_e, aCons_e, asL_e _ _ a2, Option.bind_some, aNil_e, Option.map_some, Option.bind_some, sumD_e, hL, wSum_rng, hws]
  rfl
/-! ### loss -/
theorem law_loss_e {S : Sky} (v : Valid S) (a b : Int) : f_law_loss [encS' S, .int a, .int b] = some (.ok (.int (S.loss a b))) := by
  obtain ⟨L, hL⟩ : ∃ L, L = S.ears.map (gap a b) := ⟨_, rfl⟩
  have hne := v.ne
  have getE : ixD (encS' S) (.int 2) = some (.list (S.ears.map encE)) := by simp [encS']
  have a1 : cp_law_loss_1 [some (encS' S), some (.int a), some (.int b), none, none, none] = some (.list (L.map .int)) := by
    unfold cp_law_loss_1
    rw [hL, List.map_map]
    refine lcD_e (ds := S.ears.map encE) (by simp [getE]) (by simp; omega) ?_
    refine lc_all (f := encE) _ S.ears fun e he => ⟨[some (encS' S), some (.int a), some (.int b), some (.int e.f), some (.int e.l), some (.int e.r)], by simp [wipeD, encE], ?_⟩
    have hr := v.rates e he
    have z : mulI (.int e.r) (.int (max 0 (min b e.l - max a e.f))) = some (.int (gap a b e)) := mulI_e (.inl ⟨by omega, by omega⟩)
    simp [z]
  unfold f_law_loss h_law_loss runP
  show (stRet _ [some (encS' S), some (.int a), some (.int b), none, none, none]).bind outRs = _
  rw [stRet_e, bA_e, aCons_e, asL_e _ _ a1, Option.bind_some, aNil_e, Option.map_some, Option.bind_some, sumD_e, hL]
  unfold Sky.loss
  rw [eLoss_sum]
  rfl
theorem gap_add {e : Ear} (h : e.f < e.l) {a b c : Int} (h1 : a ≤ b) (h2 : b ≤ c) : gap a c e = gap a b e + gap b c e := by
  unfold gap
  rw [← Int.mul_add]
  congr 1
  omega
theorem loss_add {S : Sky} (v : Valid S) {a b c : Int} (h1 : a ≤ b) (h2 : b ≤ c) : S.loss a c = S.loss a b + S.loss b c := by
  unfold Sky.loss
  rw [eLoss_sum, eLoss_sum, eLoss_sum]
  have : ∀ es : List Ear, (∀ e ∈ es, e.f < e.l) → (es.map (gap a c)).sum = (es.map (gap a b)).sum + (es.map (gap b c)).sum := by
    intro es
    induction es with
    | nil => intro _; rfl
    | cons e es ih =>
      intro h
      simp only [List.map_cons, List.sum_cons]
      rw [ih fun x hx => h x (List.mem_cons_of_mem _ hx), gap_add (h e List.mem_cons_self) h1 h2]
      omega
  exact this _ fun e he => (v.er e he).1.2.1
theorem loss_nn {S : Sky} (v : Valid S) (a b : Int) : 0 ≤ S.loss a b := by
  unfold Sky.loss
  rw [eLoss_sum]
  have : ∀ es : List Ear, (∀ e ∈ es, 1 ≤ e.r) → 0 ≤ (es.map (gap a b)).sum := by
    intro es
    induction es with
    | nil => intro _; exact Int.le_refl _
    | cons e es ih =>
      intro h
      simp only [List.map_cons, List.sum_cons]
      have := ih fun x hx => h x (List.mem_cons_of_mem _ hx)
      have := gap_nn (h e List.mem_cons_self) a b
      omega
  exact this _ fun e he => (v.er e he).2.1
end Sk
set_option Elab.async false
set_option linter.all false
set_option maxRecDepth 100000
set_option maxHeartbeats 4000000
/-! The law's level: one look more. -/
namespace Sk
open PySem L2 Dl
def Sky.more (S : Sky) (p : List Int) (j : Int) : Option Int := if S.isPlan (p ++ [j]) = true then some (S.amt (p ++ [j])) else none
theorem more_eq {S : Sky} {p : List Int} {j : Int} (hp : S.isPlan p = true) (h1 : ∀ l, p.getLast? = some l → l < j) : S.more p j = if S.wish j ∈ p.map S.wish ∨ (∃ l, p.getLast? = some l ∧ S.follows l j = false) then none else S.behind p.getLast? (S.amt p) j := by
  unfold Sky.more
  by_cases c : S.isPlan (p ++ [j]) = true
  · rw [if_pos c]
    obtain ⟨_, _, a3, a4, a5⟩ := isPlan_snoc.mp c
    rw [if_neg, amt_snoc c]
    rintro (z | ⟨l, z1, z2⟩)
    · exact a3 z
    · rw [a4 l z1] at z2; cases z2
  · rw [if_neg c]
    split
    · rfl
    · rename_i h
      cases hb : S.behind p.getLast? (S.amt p) j with
      | none => rfl
      | some a =>
        refine absurd (isPlan_snoc.mpr ⟨hp, h1, fun z => h (.inl z), fun l hl => ?_, by rw [hb]; rfl⟩) c
        cases hf : S.follows l j with
        | true => rfl
        | false => exact absurd (.inr ⟨l, hl, hf⟩) h
theorem level_tail {S : Sky} (v : Valid S) {j : Int} (hj : S.has j) (P : PyData) (m since : Int) (x10 x11 : Option PyData) : 
    ((sq (stSet 2 (bA max2 (aCons (cD (.int 0)) (aCons (b2 subI (vr 2) (bA (gN 3 f_law_loss) (aCons (vr 0) (aCons (vr 9) (aCons (vr 5) aNil))))) aNil))))
  (sq (stIf (tB (b2 gtI (b2 addI (vr 2) (vr 8)) (b2 ixD (vr 0) (cD (.int 3)))))
  (stRet (cD .none))
  stNx)
  (stRet (b2 addI (bA max2 (aCons (cD (.int 0)) (aCons (b2 subI (vr 2) (bA (gN 3 f_law_loss) (aCons (vr 0) (aCons (vr 5) (aCons (b2 addI (vr 5) (vr 6)) aNil))))) aNil))) (vr 8))))) [some (encS' S), some P, some (.int m), some (.int j), some (.int (S.at j).w), some (.int (S.at j).s), some (.int (S.at j).n), some (.int (S.at j).a), some (.int (S.at j).z), some (.int since), x10, x11]).bind outRs =
      some (.ok (encO (if S.cap < max 0 (m - S.loss since (S.at j).s) + (S.at j).z then none else some (max 0 (max 0 (m - S.loss since (S.at j).s) - S.loss (S.at j).s ((S.at j).s + (S.at j).n)) + (S.at j).z)))) := by
  have e1 := gN_e (n := 3) (law_loss_e v since (S.at j).s) rfl
  have e2 := gN_e (n := 3) (law_loss_e v (S.at j).s ((S.at j).s + (S.at j).n)) rfl
  have e3 : ixD (encS' S) (.int 3) = some (.int S.cap) := by simp [encS']
  obtain ⟨m', hm'⟩ : ∃ m', m' = max 0 (m - S.loss since (S.at j).s) := ⟨_, rfl⟩
  have s1 : stSet 2 (bA max2 (aCons (cD (.int 0)) (aCons (b2 subI (vr 2) (bA (gN 3 f_law_loss) (aCons (vr 0) (aCons (vr 9) (aCons (vr 5) aNil))))) aNil))) [some (encS' S), some P, some (.int m), some (.int j), some (.int (S.at j).w), some (.int (S.at j).s), some (.int (S.at j).n), some (.int (S.at j).a), some (.int (S.at j).z), some (.int since), x10, x11] = some (.nx [some (encS' S), some P, some (.int m'), some (.int j), some (.int (S.at j).w), some (.int (S.at j).s), some (.int (S.at j).n), some (.int (S.at j).a), some (.int (S.at j).z), some (.int since), x10, x11]) := by
    simp [e1, hm']
  rw [← hm', sq_e, s1, Option.bind_some]
  show (sq _ _ _).bind outRs = _
  have c1 : tB (b2 gtI (b2 addI (vr 2) (vr 8)) (b2 ixD (vr 0) (cD (.int 3)))) [some (encS' S), some P, some (.int m'), some (.int j), some (.int (S.at j).w), some (.int (S.at j).s), some (.int (S.at j).n), some (.int (S.at j).a), some (.int (S.at j).z), some (.int since), x10, x11] = some (decide (S.cap < m' + (S.at j).z)) := by
    simp [e3]
  rw [sq_e, stIf_e, c1, Option.bind_some]
  by_cases c : S.cap < m' + (S.at j).z
  · rw [decide_eq_true c, if_pos rfl, if_pos c]
    rfl
  · rw [decide_eq_false c, if_neg (by decide), if_neg c, stNx_e, Option.bind_some]
    simp [e2]
theorem law_level_e {S : Sky} (v : Valid S) {p : List Int} (hp : S.isPlan p = true) (hh : ∀ i ∈ p, S.has i) {j : Int} (hj : S.has j) (h1 : ∀ l, p.getLast? = some l → l < j) : f_law_level [encS' S, encR p, .int (S.amt p), .int j] = some (.ok (encO (S.more p j))) := by
  have g := (Good.of p hp hh).short v
  rw [more_eq hp h1]
  obtain ⟨P, hP⟩ : ∃ P, P = encR p := ⟨_, rfl⟩
  obtain ⟨m, hm⟩ : ∃ m, m = S.amt p := ⟨_, rfl⟩
  let δ : Option PyData → Option PyData → Dt := fun x9 x10 => [some (encS' S), some P, some (.int m), some (.int j), some (.int (S.at j).w), some (.int (S.at j).s), some (.int (S.at j).n), some (.int (S.at j).a), some (.int (S.at j).z), x9, x10, none]
  unfold f_law_level h_law_level runP
  rw [← hP, ← hm]
  show (sq _ _ [some (encS' S), some P, some (.int m), some (.int j), none, none, none, none, none, none, none, none]).bind outRs = _
  have s0 : stG (b2 ixD (b2 ixD (vr 0) (cD (.int 0))) (vr 3)) (gT 5 (gsCons (setD 4) (gsCons (setD 5) (gsCons (setD 6) (gsCons (setD 7) (gsCons (setD 8) gsNil)))))) [some (encS' S), some P, some (.int m), some (.int j), none, none, none, none, none, none, none, none] = some (.nx (δ none none)) := by
    simp [getL, ix_look hj, encL, δ]
  rw [sq_e, s0, Option.bind_some]
  show (sq _ _ _).bind outRs = _
  have s1 : stSet 9 (cD (.int 0)) (δ none none) = some (.nx (δ (some (.int 0)) none)) := rfl
  rw [sq_e, s1, Option.bind_some]
  show (sq _ _ _).bind outRs = _
  have hlk := v.lk _ (at_mem hj)
  rcases List.eq_nil_or_concat p with rfl | ⟨q, l, rfl⟩
  · have c0 : tB (b2 gtI (bA lenD (aCons (vr 1) aNil)) (cD (.int 0))) (δ (some (.int 0)) none) = some false := by simp [δ, hP]
    rw [sq_e, stIf_e, c0, Option.bind_some, if_neg (by decide), stNx_e, Option.bind_some]
    rw [if_neg (by rintro (z | ⟨l, z, _⟩) <;> cases z)]
    refine (level_tail v hj P m 0 none none).trans ?_
    have n1 := loss_nn v 0 (S.at j).s
    have n2 := loss_nn v (S.at j).s ((S.at j).s + (S.at j).n)
    have e1 : max 0 (m - S.loss 0 (S.at j).s) = 0 := by rw [hm, amt_nil]; omega
    have e2 : max 0 (0 - S.loss (S.at j).s ((S.at j).s + (S.at j).n)) = 0 := by omega
    rw [e1, e2]
    rfl
  · rw [List.concat_eq_append] at *
    have hl : S.has l := hh l (by simp)
    have hl1 : (q ++ [l]).getLast? = some l := by simp
    have c0 : tB (b2 gtI (bA lenD (aCons (vr 1) aNil)) (cD (.int 0))) (δ (some (.int 0)) none) = some true := by
      simp [δ, hP]
    have ixl : ixD P (.int (-1)) = some (.int l) := by rw [hP]; exact ix_last hl1
    have s2 : stSet 10 (b2 ixD (b2 ixD (vr 0) (cD (.int 0))) (b2 ixD (vr 1) (b1 negI (cD (.int 1))))) (δ (some (.int 0)) none) = some (.nx (δ (some (.int 0)) (some (encL (S.at l))))) := by
      simp [getL, ixl, ix_look hl, δ]
    have s3 : stSet 9 (b2 addI (b2 ixD (vr 10) (cD (.int 1))) (b2 ixD (vr 10) (cD (.int 2)))) (δ (some (.int 0)) (some (encL (S.at l)))) = some (.nx (δ (some (.int (S.endOf l))) (some (encL (S.at l))))) := by
      simp [encL, δ, Sky.endOf]
    have e4 := gN_e (n := 3) (law_turn_e v hl hj) rfl
    have c1 : tB (b2 ltI (vr 5) (b2 addI (vr 9) (bA (gN 3 f_law_turn) (aCons (vr 0) (aCons (b2 ixD (vr 1) (b1 negI (cD (.int 1)))) (aCons (vr 3) aNil)))))) (δ (some (.int (S.endOf l))) (some (encL (S.at l)))) = some (!S.follows l j) := by
      have e5 : (!S.follows l j) = decide ((S.at j).s < S.endOf l + S.turning l j) := by
        unfold Sky.follows
        by_cases c : S.endOf l + S.turning l j ≤ (S.at j).s
        · have : ¬ (S.at j).s < S.endOf l + S.turning l j := by omega
          simp [c, this]
        · have : (S.at j).s < S.endOf l + S.turning l j := by omega
          simp [c, this]
      rw [e5]
      simp [δ, ixl, e4]
    have a1 : cp_law_level_1 (δ (some (.int (S.endOf l))) (some (encL (S.at l)))) = some (.list (((q ++ [l]).map S.wish).map .int)) := by
      unfold cp_law_level_1
      rw [List.map_map]
      refine lcD_e (ds := (q ++ [l]).map .int) (by simp [δ, hP]) (by simp at g ⊢; omega) ?_
      refine lc_all (f := PyData.int) _ (q ++ [l]) fun i hi => ⟨(δ (some (.int (S.endOf l))) (some (encL (S.at l)))).set 11 (some (.int i)), by simp [wipeD, δ], ?_⟩
      simp [getL, ix_look (hh i hi), encL, Sky.wish, δ]
    have c2 : tB (b2 inD (vr 4) (asL cp_law_level_1)) (δ (some (.int (S.endOf l))) (some (encL (S.at l)))) = some (decide (S.wish j ∈ (q ++ [l]).map S.wish)) := by
      rw [tB_e, b2_e, asL_e _ _ a1]
      show ((inD (.int (S.at j).w) (.list (((q ++ [l]).map S.wish).map .int)))).bind _ = _
      rw [inD_ints]
      rfl
    rw [sq_e, stIf_e, c0, Option.bind_some, if_pos rfl, sq_e, s2, Option.bind_some]
    show ((sq _ _ _).bind _).bind outRs = _
    rw [sq_e, s3, Option.bind_some]
    show ((stIf _ _ _ _).bind _).bind outRs = _
    rw [stIf_e, tOr_e, c1, Option.bind_some]
    by_cases hf : S.follows l j = true
    · rw [hf, if_neg (by decide), c2, Option.bind_some]
      by_cases hw : S.wish j ∈ (q ++ [l]).map S.wish
      · rw [decide_eq_true hw, if_pos rfl, if_pos (.inl hw)]
        rfl
      · rw [decide_eq_false hw, if_neg (by decide), stNx_e, Option.bind_some]
        rw [if_neg (by
          rintro (z | ⟨l', z1, z2⟩)
          · exact hw z
          · rw [hl1] at z1
            cases z1
            rw [hf] at z2
            cases z2), hl1]
        show (sq _ _ (δ (some (.int (S.endOf l))) (some (encL (S.at l))))).bind outRs = _
        refine (level_tail v hj P m (S.endOf l) (some (encL (S.at l))) none).trans ?_
        have hfo := of_decide_eq_true hf
        have tn := turning_nn v l j
        have la := loss_add v (a := S.endOf l) (b := (S.at j).s) (c := (S.at j).s + (S.at j).n) (by omega) (by omega)
        have n2 := loss_nn v (S.at j).s ((S.at j).s + (S.at j).n)

        unfold Sky.behind Sky.stored
        dsimp only
        rw [la]
        congr 3
        split
        · rfl
        · congr 1
          omega
    · have hf' : S.follows l j = false := by simpa using hf
      rw [hf', if_pos (by decide), if_pos (.inr ⟨l, hl1, hf'⟩)]
      rfl
end Sk
set_option Elab.async false
set_option linter.all false
set_option maxRecDepth 100000
set_option maxHeartbeats 4000000
/-! The law's plans. -/
namespace Sk
open PySem L2 Dl
def encF (S : Sky) (p : List Int) : PyData := .tuple [encR p, .int (S.amt p)]
def gNS : PyData → Dt → Option Dt := gT 2 (gsCons (setD 5) (gsCons (setD 6) gsNil))
/-- what may be on the way at k -/
structure Way (S : Sky) (now : Int) (begun : List Int) (k : Int) (p : List Int) : Prop where
  pl : S.isPlan p = true
  ex : ∃ q, p = begun.filter (fun i => decide (i < k)) ++ q ∧ ∀ i ∈ q, S.has i ∧ now ≤ (S.at i).s ∧ i < k
theorem Way.lt {S : Sky} {now : Int} {begun : List Int} {k : Int} {p : List Int} (h : Way S now begun k p) : ∀ i ∈ p, i < k := by
  obtain ⟨q, e, hq⟩ := h.ex
  intro i hi
  rw [e] at hi
  rcases List.mem_append.mp hi with z | z
  · simpa using (List.mem_filter.mp z).2
  · exact (hq i z).2.2
theorem Way.has {S : Sky} {now : Int} {begun : List Int} (b : Begun S begun) {k : Int} {p : List Int} (h : Way S now begun k p) : ∀ i ∈ p, S.has i := by
  obtain ⟨q, e, hq⟩ := h.ex
  intro i hi
  rw [e] at hi
  rcases List.mem_append.mp hi with z | z
  · exact b.has i (List.mem_filter.mp z).1
  · exact (hq i z).1
theorem Way.level {S : Sky} (v : Valid S) {now : Int} {begun : List Int} (b : Begun S begun) {k : Int} (hk : S.has k) {p : List Int} (h : Way S now begun k p) : gN 4 f_law_level [encS' S, encR p, .int (S.amt p), .int k] = some (encO (S.more p k)) :=
  gN_e (n := 4) (law_level_e v h.pl (h.has b) hk fun l hl => h.lt l (List.mem_of_getLast? hl)) rfl
theorem Way.short {S : Sky} (v : Valid S) {now : Int} {begun : List Int} (b : Begun S begun) {k : Int} {p : List Int} (h : Way S now begun k p) : p.length ≤ 16 := (Good.of p h.pl (h.has b)).short v
theorem filt_in {k : Int} : ∀ {p : List Int}, p.Pairwise (· < ·) → k ∈ p → p.filter (fun i => decide (i < k + 1)) = p.filter (fun i => decide (i < k)) ++ [k]
  | [], _, h => by cases h
  | j :: p, h, hm => by
    obtain ⟨h1, h2⟩ := List.pairwise_cons.mp h
    rcases List.mem_cons.mp hm with rfl | z
    · have e1 : p.filter (fun i => decide (i < k + 1)) = [] := by
        rw [List.filter_eq_nil_iff]
        intro i hi
        have := h1 i hi
        simp
        omega
      have e2 : p.filter (fun i => decide (i < k)) = [] := by
        rw [List.filter_eq_nil_iff]
        intro i hi
        have := h1 i hi
        simp
        omega
      rw [List.filter_cons_of_pos (by simp; omega), List.filter_cons_of_neg (by simp), e1, e2]
      rfl
    · have := h1 k z
      rw [List.filter_cons_of_pos (by simp; omega), List.filter_cons_of_pos (by simp; omega), filt_in h2 z]
      rfl
theorem filt_out {k : Int} {p : List Int} (h : k ∉ p) : p.filter (fun i => decide (i < k + 1)) = p.filter (fun i => decide (i < k)) := by
  refine List.filter_congr fun i hi => ?_
  have : i ≠ k := fun e => h (e ▸ hi)
  exact iff_dec (by omega)
theorem filt_pre {k : Int} : ∀ {p : List Int}, p.Pairwise (· < ·) → ∃ r, p = p.filter (fun i => decide (i < k)) ++ r
  | [], _ => ⟨[], rfl⟩
  | j :: p, h => by
    obtain ⟨h1, h2⟩ := List.pairwise_cons.mp h
    by_cases c : j < k
    · obtain ⟨r, hr⟩ := filt_pre (k := k) h2
      refine ⟨r, ?_⟩
      rw [List.filter_cons_of_pos (by simpa using c), List.cons_append, ← hr]
    · refine ⟨j :: p, ?_⟩
      rw [List.filter_cons_of_neg (by simpa using c)]
      have e1 : p.filter (fun i => decide (i < k)) = [] := by
        rw [List.filter_eq_nil_iff]
        intro i hi
        have := h1 i hi
        simp
        omega
      rw [e1]; rfl
theorem more_some {S : Sky} {p : List Int} {k : Int} (h : S.isPlan (p ++ [k]) = true) : S.more p k = some (S.amt (p ++ [k])) := if_pos h
theorem more_none {S : Sky} {p : List Int} {k : Int} (h : ¬ S.isPlan (p ++ [k]) = true) : S.more p k = none := if_neg h
/-- the inner loop -/
theorem ways_turn {S : Sky} (v : Valid S) {now : Int} {begun : List Int} (b : Begun S begun) {k : Int} (hk : S.has k) (p1 p2 : Option PyData) : ∀ (G F : List (List Int)) (x5 x6 x7 : Option PyData), (∀ p ∈ G, Way S now begun k p) → F.length + G.length ≤ 1000000 →
    ∃ y5 y6 y7, forL gNS lp_law_plans_on_1 (G.map (encF S)) [some (encS' S), p1, p2, some (.list (F.map (encF S))), some (.int k), x5, x6, x7] = some (.nx [some (encS' S), p1, p2, some (.list ((F ++ (G.filter fun p => S.isPlan (p ++ [k])).map (· ++ [k])).map (encF S))), some (.int k), y5, y6, y7]) := by
  intro G
  induction G with
  | nil => intro F x5 x6 x7 _ _; exact ⟨x5, x6, x7, by simp [forL]⟩
  | cons p G ih =>
    intro F x5 x6 x7 hG hl
    rw [List.length_cons] at hl
    have hp := hG p List.mem_cons_self
    have hs := hp.short v b
    have e1 := hp.level v b hk
    have s1 : stSet 7 (bA (gN 4 f_law_level) (aCons (vr 0) (aCons (vr 5) (aCons (vr 6) (aCons (vr 4) aNil))))) [some (encS' S), p1, p2, some (.list (F.map (encF S))), some (.int k), some (encR p), some (.int (S.amt p)), x7] = some (.nx [some (encS' S), p1, p2, some (.list (F.map (encF S))), some (.int k), some (encR p), some (.int (S.amt p)), some (encO (S.more p k))]) := by
      have z : bA (gN 4 f_law_level) (aCons (vr 0) (aCons (vr 5) (aCons (vr 6) (aCons (vr 4) aNil)))) [some (encS' S), p1, p2, some (.list (F.map (encF S))), some (.int k), some (encR p), some (.int (S.amt p)), x7] = some (encO (S.more p k)) := e1
      rw [stSet_e, z]; rfl
    have body : lp_law_plans_on_1 [some (encS' S), p1, p2, some (.list (F.map (encF S))), some (.int k), some (encR p), some (.int (S.amt p)), x7] = some (.nx [some (encS' S), p1, p2, some (.list ((if S.isPlan (p ++ [k]) = true then F ++ [p ++ [k]] else F).map (encF S))), some (.int k), some (encR p), some (.int (S.amt p)), some (encO (S.more p k))]) := by
      unfold lp_law_plans_on_1
      rw [sq_e, s1, Option.bind_some]
      show stIf _ _ _ _ = _
      have c1 : tB (b2 isNotN (vr 7) (cD .none)) [some (encS' S), p1, p2, some (.list (F.map (encF S))), some (.int k), some (encR p), some (.int (S.amt p)), some (encO (S.more p k))] = some (!(S.more p k).isNone) := by simp
      rw [stIf_e, c1, Option.bind_some]
      by_cases c : S.isPlan (p ++ [k]) = true
      · have a0 : asL (bA (fun l => (szOk l).map .list) (aCons (vr 4) aNil)) [some (encS' S), p1, p2, some (.list (F.map (encF S))), some (.int k), some (encR p), some (.int (S.amt p)), some (encO (S.more p k))] = some (.list [.int k]) := asL_e _ _ (by simp)
        have a1 : bA (fun l => (szOk l).map .tuple) (aCons (b2 catL (vr 5) (asL (bA (fun l => (szOk l).map .list) (aCons (vr 4) aNil)))) (aCons (vr 7) aNil)) [some (encS' S), p1, p2, some (.list (F.map (encF S))), some (.int k), some (encR p), some (.int (S.amt p)), some (encO (S.more p k))] = some (encF S (p ++ [k])) := by
          rw [bA_e, aCons_e, b2_e, a0]
          show (((catL (encR p) (.list [.int k])).bind _).bind _) = _
          rw [catL_e (by simp; omega), more_some c]
          simp [encF]
        rw [more_some c, if_pos (show (!(some (S.amt (p ++ [k]))).isNone) = true from rfl), ← more_some c, app_e rfl a1 (by simp; omega), if_pos c, List.map_append]
        rfl
      · rw [more_none c, if_neg (by decide), if_neg c]
        rfl
    rw [List.map_cons]
    unfold forL
    have g1 : gNS (encF S p) [some (encS' S), p1, p2, some (.list (F.map (encF S))), some (.int k), x5, x6, x7] = some [some (encS' S), p1, p2, some (.list (F.map (encF S))), some (.int k), some (encR p), some (.int (S.amt p)), x7] := rfl
    rw [g1, Option.bind_some, body, Option.bind_some]
    obtain ⟨y5, y6, y7, t⟩ := ih (if S.isPlan (p ++ [k]) = true then F ++ [p ++ [k]] else F) (some (encR p)) (some (.int (S.amt p))) (some (encO (S.more p k))) (fun q hq => hG q (List.mem_cons_of_mem _ hq)) (by split <;> (try simp only [List.length_append, List.length_singleton]) <;> omega)
    refine ⟨y5, y6, y7, ?_⟩
    show forL gNS lp_law_plans_on_1 _ _ = _
    rw [t]
    by_cases c : S.isPlan (p ++ [k]) = true
    · rw [if_pos c, List.filter_cons_of_pos (by simpa using c)]; simp
    · rw [if_neg c, List.filter_cons_of_neg (by simpa using c)]
/-- one look more -/
theorem ways_step {S : Sky} (v : Valid S) {now : Int} {begun : List Int} (b : Begun S begun) (bs : ∀ i ∈ begun, (S.at i).s < now) {k : Int} (hk : S.has k) {F : List (List Int)} (hF : ∀ p, p ∈ F ↔ Way S now begun k p) (hl : F.length ≤ 40000) (x4 x5 x6 x7 : Option PyData) :
    ∃ (F' : List (List Int)) (y5 y6 y7 : Option PyData), lp_law_plans_on_2 [some (encS' S), some (.int now), some (encR begun), some (.list (F.map (encF S))), some (.int k), x5, x6, x7] = some (.nx [some (encS' S), some (.int now), some (encR begun), some (.list (F'.map (encF S))), some (.int k), y5, y6, y7]) ∧ (∀ p, p ∈ F' ↔ Way S now begun (k + 1) p) ∧ F'.length ≤ 2 * F.length := by
  have blt := isPlan_lt begun b.pl
  have c0 : tB (b2 inD (vr 4) (vr 2)) [some (encS' S), some (.int now), some (encR begun), some (.list (F.map (encF S))), some (.int k), x5, x6, x7] = some (decide (k ∈ begun)) := by
    rw [tB_e, b2_e]
    show (inD (.int k) (encR begun)).bind _ = _
    rw [inD_ints]
    rfl
  have c1 : tB (b2 geI (b2 ixD (b2 ixD (b2 ixD (vr 0) (cD (.int 0))) (vr 4)) (cD (.int 1))) (vr 1)) [some (encS' S), some (.int now), some (encR begun), some (.list (F.map (encF S))), some (.int k), x5, x6, x7] = some (decide (now ≤ (S.at k).s)) := by
    simp [getL, ix_look hk, encL]
  unfold lp_law_plans_on_2
  rw [stIf_e, c0, Option.bind_some]
  by_cases c : k ∈ begun
  · have allP : ∀ p ∈ F, p = begun.filter (fun i => decide (i < k)) := fun p hp => by
      obtain ⟨q, e, hq⟩ := ((hF p).mp hp).ex
      cases q with
      | nil => rw [e, List.append_nil]
      | cons i q =>
        obtain ⟨z1, z2, z3⟩ := hq i List.mem_cons_self
        have := v.mono z1 hk z3
        have := bs k c
        omega
    have hpl : S.isPlan (begun.filter (fun i => decide (i < k)) ++ [k]) = true := by
      rw [← filt_in blt c]
      obtain ⟨r, hr⟩ := filt_pre (k := k + 1) blt
      refine isPlan_pre (q := r) ?_
      rw [← hr]
      exact b.pl
    refine ⟨F.map (· ++ [k]), x5, x6, x7, ?_, fun p => ?_, by rw [List.length_map]; omega⟩
    · rw [decide_eq_true c, if_pos rfl]
      have a1 : cp_law_plans_on_1 [some (encS' S), some (.int now), some (encR begun), some (.list (F.map (encF S))), some (.int k), x5, x6, x7] = some (.list ((F.map (· ++ [k])).map (encF S))) := by
        unfold cp_law_plans_on_1
        rw [List.map_map]
        refine lcD_e (ds := F.map (encF S)) rfl (by simp; omega) ?_
        refine lc_all (f := encF S) _ F fun p hp => ⟨[some (encS' S), some (.int now), some (encR begun), some (.list (F.map (encF S))), some (.int k), some (encR p), some (.int (S.amt p)), x7], rfl, ?_⟩
        have hw := (hF p).mp hp
        have hs := hw.short v b
        have e1 := hw.level v b hk
        have e2 : S.isPlan (p ++ [k]) = true := by rw [allP p hp]; exact hpl
        have a0 : asL (bA (fun l => (szOk l).map .list) (aCons (vr 4) aNil)) [some (encS' S), some (.int now), some (encR begun), some (.list (F.map (encF S))), some (.int k), some (encR p), some (.int (S.amt p)), x7] = some (.list [.int k]) := asL_e _ _ (by simp)
        have a2 : bA (gN 4 f_law_level) (aCons (vr 0) (aCons (vr 5) (aCons (vr 6) (aCons (vr 4) aNil)))) [some (encS' S), some (.int now), some (encR begun), some (.list (F.map (encF S))), some (.int k), some (encR p), some (.int (S.amt p)), x7] = some (encO (S.more p k)) := e1
        rw [bA_e, aCons_e, b2_e, a0, aCons_e, a2, more_some e2]
        show (((catL (encR p) (.list [.int k])).bind _).bind _) = _
        rw [catL_e (by simp; omega)]
        simp [encF]
      rw [stSet_e, asL_e _ _ a1]
      rfl
    · constructor
      · intro hp
        obtain ⟨p0, h0, rfl⟩ := List.mem_map.mp hp
        rw [allP p0 h0]
        refine ⟨hpl, [], ?_, fun i hi => by cases hi⟩
        rw [filt_in blt c, List.append_nil]
      · rintro ⟨h1, q, e, hq⟩
        have hq0 : q = [] := by
          cases q with
          | nil => rfl
          | cons i q =>
            exfalso
            obtain ⟨z1, z2, z3⟩ := hq i List.mem_cons_self
            have h3 := bs k c
            by_cases e : i = k
            · rw [e] at z2; omega
            · have := v.mono z1 hk (by omega)
              omega
        rw [hq0, List.append_nil, filt_in blt c] at e
        refine List.mem_map.mpr ⟨begun.filter (fun i => decide (i < k)), (hF _).mpr ⟨(isPlan_snoc.mp hpl).1, [], by rw [List.append_nil], fun i hi => by cases hi⟩, e.symm⟩
  · rw [decide_eq_false c, if_neg (by decide), stIf_e, c1, Option.bind_some]
    by_cases c2 : now ≤ (S.at k).s
    · obtain ⟨y5, y6, y7, t⟩ := ways_turn v b hk (some (.int now)) (some (encR begun)) F F x5 x6 x7 (fun p hp => (hF p).mp hp) (by omega)
      refine ⟨F ++ (F.filter fun p => S.isPlan (p ++ [k])).map (· ++ [k]), y5, y6, y7, ?_, fun p => ?_, ?_⟩
      · rw [decide_eq_true c2, if_pos rfl, stFor_e]
        have e : listI (asL (asL (vr 3))) [some (encS' S), some (.int now), some (encR begun), some (.list (F.map (encF S))), some (.int k), x5, x6, x7] = some (F.map (encF S)) := rfl
        rw [e, Option.bind_some]
        exact t
      · rw [List.mem_append]
        constructor
        · rintro (z | z)
          · obtain ⟨h1, q, e, hq⟩ := (hF p).mp z
            refine ⟨h1, q, by rw [filt_out c]; exact e, fun i hi => ?_⟩
            have := hq i hi
            exact ⟨this.1, this.2.1, by omega⟩
          · obtain ⟨p0, z1, rfl⟩ := List.mem_map.mp z
            obtain ⟨z2, z3⟩ := List.mem_filter.mp z1
            obtain ⟨h1, q, e, hq⟩ := (hF p0).mp z2
            refine ⟨z3, q ++ [k], by rw [filt_out c, e, List.append_assoc], fun i hi => ?_⟩
            rcases List.mem_append.mp hi with y | y
            · have := hq i y
              exact ⟨this.1, this.2.1, by omega⟩
            · rw [List.mem_singleton.mp y]
              exact ⟨hk, c2, by omega⟩
        · rintro ⟨h1, q, e, hq⟩
          rw [filt_out c] at e
          have hlt := isPlan_lt p h1
          rcases List.eq_nil_or_concat q with rfl | ⟨q0, l, rfl⟩
          · exact .inl ((hF p).mpr ⟨h1, [], e, fun i hi => by cases hi⟩)
          · rw [List.concat_eq_append] at e hq
            rw [e, ← List.append_assoc] at hlt
            have below := (List.pairwise_append.mp hlt).2.2
            have hl' := hq l (by simp)
            by_cases ce : l = k
            · subst ce
              right
              have e2 : p = (begun.filter (fun i => decide (i < l)) ++ q0) ++ [l] := by rw [e, List.append_assoc]
              rw [e2] at h1
              refine List.mem_map.mpr ⟨begun.filter (fun i => decide (i < l)) ++ q0, List.mem_filter.mpr ⟨(hF _).mpr ⟨(isPlan_snoc.mp h1).1, q0, rfl, fun i hi => ?_⟩, h1⟩, e2.symm⟩
              have := hq i (by simp [hi])
              exact ⟨this.1, this.2.1, below i (by simp [hi]) l (by simp)⟩
            · left
              refine (hF p).mpr ⟨h1, q0 ++ [l], e, fun i hi => ?_⟩
              have := hq i hi
              refine ⟨this.1, this.2.1, ?_⟩
              rcases List.mem_append.mp hi with y | y
              · have := below i (by simp [y]) l (by simp)
                omega
              · rw [List.mem_singleton.mp y]
                omega
      · rw [List.length_append, List.length_map]
        have := List.length_filter_le (fun p => S.isPlan (p ++ [k])) F
        omega
    · refine ⟨F, x5, x6, x7, by rw [decide_eq_false c2, if_neg (by decide)]; rfl, fun p => ?_, by omega⟩
      rw [hF]
      constructor
      · rintro ⟨h1, q, e, hq⟩
        refine ⟨h1, q, by rw [filt_out c]; exact e, fun i hi => ?_⟩
        have := hq i hi
        exact ⟨this.1, this.2.1, by omega⟩
      · rintro ⟨h1, q, e, hq⟩
        refine ⟨h1, q, by rw [← filt_out c]; exact e, fun i hi => ?_⟩
        have := hq i hi
        refine ⟨this.1, this.2.1, ?_⟩
        have : i ≠ k := by
          rintro rfl
          exact c2 this.2.1
        omega
theorem law_plans_on_e {S : Sky} (v : Valid S) {now : Int} {begun : List Int} (b : Begun S begun) (bs : ∀ i ∈ begun, (S.at i).s < now) : ∃ L : List (List Int), f_law_plans_on [encS' S, .int now, encR begun] = some (.ok (.list (L.map encR))) ∧ (∀ p, p ∈ L ↔ Ext S now begun p) ∧ L.length ≤ 65536 := by
  have hn := v.nl
  have loop : ∀ (m : Nat) (k : Int), 0 ≤ k → k + m = S.looks.length → ∀ (F : List (List Int)) (x4 x5 x6 x7 : Option PyData), (∀ p, p ∈ F ↔ Way S now begun k p) → F.length * 2 ^ m ≤ 65536 →
      ∃ (F' : List (List Int)) (y4 y5 y6 y7 : Option PyData), forL (setD 4) lp_law_plans_on_2 ((rng k S.looks.length).map .int) [some (encS' S), some (.int now), some (encR begun), some (.list (F.map (encF S))), x4, x5, x6, x7] = some (.nx [some (encS' S), some (.int now), some (encR begun), some (.list (F'.map (encF S))), y4, y5, y6, y7]) ∧ (∀ p, p ∈ F' ↔ Way S now begun S.looks.length p) ∧ F'.length ≤ 65536 := by
    intro m
    induction m with
    | zero =>
      intro k h0 hk F x4 x5 x6 x7 h1 h2
      have e : k = S.looks.length := by omega
      have r : rng k S.looks.length = [] := by unfold rng; rw [e]; simp
      rw [r, ← e]
      exact ⟨F, x4, x5, x6, x7, rfl, h1, by omega⟩
    | succ m ih =>
      intro k h0 hk F x4 x5 x6 x7 h1 h2
      have r : rng k S.looks.length = k :: rng (k + 1) S.looks.length := by
        unfold rng
        have e1 : ((S.looks.length : Int) - k).toNat = m + 1 := by omega
        have e2 : ((S.looks.length : Int) - (k + 1)).toNat = m := by omega
        rw [e1, e2, List.range_succ_eq_map, List.map_cons, List.map_map]
        congr 1
        · omega
        · refine List.map_congr_left fun i _ => ?_
          show k + ((i + 1 : Nat) : Int) = k + 1 + (i : Int)
          omega
      have p1 : 1 ≤ 2 ^ m := Nat.one_le_two_pow
      have p2 : F.length * 2 ^ (m + 1) = 2 * F.length * 2 ^ m := by rw [Nat.pow_succ, Nat.mul_comm (2 ^ m) 2, ← Nat.mul_assoc, Nat.mul_comm F.length 2]
      rw [p2] at h2
      have hl : 2 * F.length ≤ 65536 := Nat.le_trans (Nat.le_mul_of_pos_right _ p1) h2
      obtain ⟨F', y5, y6, y7, t1, t2, t3⟩ := ways_step v b bs (k := k) ⟨h0, by omega⟩ h1 (by omega) x4 x5 x6 x7
      obtain ⟨F2, z4, z5, z6, z7, u1, u2, u3⟩ := ih (k + 1) (by omega) (by omega) F' (some (.int k)) y5 y6 y7 t2 (Nat.le_trans (Nat.mul_le_mul_right _ t3) h2)
      refine ⟨F2, z4, z5, z6, z7, ?_, u2, u3⟩
      rw [r, List.map_cons]
      unfold forL
      rw [setD_e, Option.bind_some]
      show (lp_law_plans_on_2 [some (encS' S), some (.int now), some (encR begun), some (.list (F.map (encF S))), some (.int k), x5, x6, x7]).bind _ = _
      rw [t1, Option.bind_some]
      exact u1
  have start : ∀ p, p ∈ [([] : List Int)] ↔ Way S now begun 0 p := by
    intro p
    rw [List.mem_singleton]
    have e0 : begun.filter (fun i => decide (i < 0)) = [] := by
      rw [List.filter_eq_nil_iff]
      intro i hi
      have := (b.has i hi).1
      simp
      omega
    constructor
    · rintro rfl
      exact ⟨rfl, [], by rw [e0]; rfl, fun i hi => by cases hi⟩
    · rintro ⟨h1, q, e, hq⟩
      cases q with
      | nil => rw [e, e0]; rfl
      | cons i q =>
        have := hq i List.mem_cons_self
        have := this.1.1
        omega
  obtain ⟨F, y4, y5, y6, y7, t1, t2, t3⟩ := loop S.looks.length 0 (Int.le_refl _) (by omega) [[]] none none none none start (by
    have : 2 ^ S.looks.length ≤ 2 ^ 16 := Nat.pow_le_pow_right (by decide) hn
    simp
    omega)
  refine ⟨F.mergeSort fun a b => decide (a ≤ b), ?_, fun p => ?_, by rw [List.length_mergeSort]; exact t3⟩
  · unfold f_law_plans_on h_law_plans_on runP
    show (sq _ _ [some (encS' S), some (.int now), some (encR begun), none, none, none, none, none]).bind outRs = _
    have s1 : stSet 3 (asL (bA (fun l => (szOk l).map .list) (aCons (bA (fun l => (szOk l).map .tuple) (aCons (asL (bA (fun l => (szOk l).map .list) aNil)) (aCons (cD (.int 0)) aNil))) aNil))) [some (encS' S), some (.int now), some (encR begun), none, none, none, none, none] = some (.nx [some (encS' S), some (.int now), some (encR begun), some (.list ([([] : List Int)].map (encF S))), none, none, none, none]) := by
      have z0 : asL (bA (fun l => (szOk l).map .list) aNil) [some (encS' S), some (.int now), some (encR begun), none, none, none, none, none] = some (.list []) := asL_e _ _ (by simp)
      have z1 : bA (fun l => (szOk l).map .list) (aCons (bA (fun l => (szOk l).map .tuple) (aCons (asL (bA (fun l => (szOk l).map .list) aNil)) (aCons (cD (.int 0)) aNil))) aNil) [some (encS' S), some (.int now), some (encR begun), none, none, none, none, none] = some (.list [.tuple [.list [], .int 0]]) := by
        rw [bA_e, aCons_e, bA_e, aCons_e, z0]
        simp
      rw [stSet_e, asL_e _ _ z1]
      rfl
    rw [sq_e, s1, Option.bind_some]
    show (sq _ _ _).bind outRs = _
    have r1 : rng1 (aCons (bA lenD (aCons (b2 ixD (vr 0) (cD (.int 0))) aNil)) aNil) [some (encS' S), some (.int now), some (encR begun), some (.list ([([] : List Int)].map (encF S))), none, none, none, none] = some ((rng 0 S.looks.length).map .int) := by
      refine rng1_e (by omega) ?_
      rw [aCons_e, bA_e, aCons_e, b2_e]
      show ((((((ixD (encS' S) (.int 0))).bind fun d => some [d])).bind lenD).bind fun d => some [d]) = _
      rw [getL]
      simp
    rw [sq_e, stFor_e, r1, Option.bind_some, t1, Option.bind_some]
    show (stRet _ _).bind outRs = _
    have a2 : cp_law_plans_on_2 [some (encS' S), some (.int now), some (encR begun), some (.list (F.map (encF S))), y4, y5, y6, y7] = some (.list (F.map encR)) := by
      unfold cp_law_plans_on_2
      refine lcD_e (ds := F.map (encF S)) rfl (by simp; omega) ?_
      exact lc_all (f := encF S) _ F fun p hp => ⟨[some (encS' S), some (.int now), some (encR begun), some (.list (F.map (encF S))), y4, some (encR p), some (.int (S.amt p)), y7], rfl, rfl⟩
    rw [stRet_e, bA_e, aCons_e, asL_e _ _ a2, Option.bind_some, aNil_e, Option.map_some, Option.bind_some, srtR_e]
    rfl
  · rw [List.mem_mergeSort, t2]
    have e0 : begun.filter (fun i => decide (i < (S.looks.length : Int))) = begun := by
      rw [List.filter_eq_self]
      intro i hi
      simpa using (b.has i hi).2
    constructor
    · rintro ⟨h1, q, e, hq⟩
      rw [e0] at e
      exact ⟨q, e, h1, fun i hi => ⟨(hq i hi).1, (hq i hi).2.1⟩⟩
    · rintro ⟨q, e, h1, hq⟩
      exact ⟨h1, q, by rw [e0]; exact e, fun i hi => ⟨(hq i hi).1, (hq i hi).2, (hq i hi).1.2⟩⟩
end Sk
set_option Elab.async false
set_option linter.all false
set_option maxRecDepth 100000
set_option maxHeartbeats 4000000
/-! The law's best plan. -/
namespace Sk
open PySem L2 Dl
theorem law_keep_e {S : Sky} {p prom : List Int} (hp : ∀ i ∈ p, S.has i) (hl : p.length ≤ 1000) (hm : prom.length ≤ 1000) : f_law_keep [encS' S, encR p, encR prom] = some (.ok (.bool (S.keeps p prom))) := by
  have h1 : asL cp_law_keep_1 [some (encS' S), some (encR p), some (encR prom), none, none, none] = some (.list ((p.map S.wish).map .int)) := by
    refine asL_e _ _ ?_
    unfold cp_law_keep_1
    refine lcD_e (ds := p.map .int) (by simp) (by simp; omega) ?_
    rw [List.map_map]
    refine lc_all (f := PyData.int) _ p fun i hi => ⟨[some (encS' S), some (encR p), some (encR prom), none, some (.int i), none], ?_, ?_⟩
    · simp [wipeD]
    · simp [getL, ix_look (hp i hi), encL, Sky.wish]
  obtain ⟨B, hB⟩ : ∃ B, B = prom.map fun w => decide (w ∈ p.map S.wish) := ⟨_, rfl⟩
  have h2 : asL cp_law_keep_2 [some (encS' S), some (encR p), some (encR prom), some (.list ((p.map S.wish).map .int)), none, none] = some (.list (B.map .bool)) := by
    refine asL_e _ _ ?_
    unfold cp_law_keep_2
    have eB : B.map PyData.bool = prom.map fun w => PyData.bool (decide (w ∈ p.map S.wish)) := by rw [hB, List.map_map] <;> rfl
    rw [eB]
    refine lcD_e (ds := prom.map .int) (by simp) (by simp; omega) ?_
    refine lc_all (f := PyData.int) _ prom fun w hw => ⟨[some (encS' S), some (encR p), some (encR prom), some (.list ((p.map S.wish).map .int)), none, some (.int w)], ?_, ?_⟩
    · simp only [wipeD, setD_e, List.set_cons_succ, List.set_cons_zero]
    · show (some (PyData.int w)).bind (fun x => (some (PyData.list ((p.map S.wish).map .int))).bind fun y => inD x y) = _
      rw [Option.bind_some, Option.bind_some, inD_ints]
  unfold f_law_keep h_law_keep runP startD
  simp only [List.map_cons, List.map_nil, List.length_cons, List.length_nil, List.replicate, List.cons_append, List.nil_append, sq_e, stSet_e, h1, Option.map_some, Option.bind_some, List.set_cons_succ, List.set_cons_zero, stRet_e, bA_e, aCons_e, aNil_e, h2, allD_e, outRs_rt]
  unfold Sky.keeps
  rw [hB, List.all_map]
  rfl
def encP : Option (List Int) → PyData
  | none => .none
  | some p => encR p
@[simp] theorem isNone_encP (o : Option (List Int)) : isNone (encP o) = o.isNone := by cases o <;> rfl
def lstep (S : Sky) (prom : List Int) (b : Option (List Int)) (p : List Int) : Option (List Int) := if S.keeps p prom = true ∧ (∀ q, b = some q → S.worth q < S.worth p) then some p else b
theorem lfold (S : Sky) (prom : List Int) (L : List (List Int)) : (L.foldl (lstep S prom) none = none ∧ ∀ p ∈ L, ¬ S.keeps p prom = true) ∨ ∃ p, L.foldl (lstep S prom) none = some p ∧ p ∈ L ∧ S.keeps p prom = true ∧ ∀ q ∈ L, S.keeps q prom = true → S.worth q ≤ S.worth p := by
  refine snoc_ind (P := fun L => (L.foldl (lstep S prom) none = none ∧ ∀ p ∈ L, ¬ S.keeps p prom = true) ∨ ∃ p, L.foldl (lstep S prom) none = some p ∧ p ∈ L ∧ S.keeps p prom = true ∧ ∀ q ∈ L, S.keeps q prom = true → S.worth q ≤ S.worth p) ?_ ?_ L
  · exact .inl ⟨rfl, by simp⟩
  · intro L x ih
    rw [List.foldl_append]
    show ((lstep S prom (L.foldl (lstep S prom) none) x) = none ∧ _) ∨ ∃ p, lstep S prom (L.foldl (lstep S prom) none) x = some p ∧ _
    rcases ih with ⟨e, h⟩ | ⟨p, e, h1, h2, h3⟩
    · rw [e]
      unfold lstep
      by_cases c : S.keeps x prom = true
      · right
        rw [if_pos ⟨c, fun q z => nomatch z⟩]
        refine ⟨x, rfl, by simp, c, fun q hq hk => ?_⟩
        rcases List.mem_append.mp hq with z | z
        · exact absurd hk (h q z)
        · rw [List.mem_singleton.mp z]; exact Int.le_refl _
      · left
        rw [if_neg fun z => c z.1]
        refine ⟨rfl, fun q hq => ?_⟩
        rcases List.mem_append.mp hq with z | z
        · exact h q z
        · rw [List.mem_singleton.mp z]; exact c
    · rw [e]
      right
      unfold lstep
      by_cases c : S.keeps x prom = true ∧ ∀ q, some p = some q → S.worth q < S.worth x
      · rw [if_pos c]
        refine ⟨x, rfl, by simp, c.1, fun q hq hk => ?_⟩
        rcases List.mem_append.mp hq with z | z
        · have := h3 q z hk
          have := c.2 p rfl
          omega
        · rw [List.mem_singleton.mp z]; exact Int.le_refl _
      · rw [if_neg c]
        refine ⟨p, rfl, List.mem_append.mpr (.inl h1), h2, fun q hq hk => ?_⟩
        rcases List.mem_append.mp hq with z | z
        · exact h3 q z hk
        · rw [List.mem_singleton.mp z] at hk ⊢
          by_cases c2 : S.worth x ≤ S.worth p
          · exact c2
          · refine absurd ⟨hk, fun q z => ?_⟩ c
            cases z
            omega
def encT4 (x : Stt) : PyData := .tuple [encS' x.S, .int x.now, encR x.begun, encR x.prom]
theorem law_best_e {x : Stt} (inv : Inv x) : ∃ q, f_law_best [encT4 x] = some (.ok (encR q)) ∧ Ext x.S x.now x.begun q ∧ x.S.worth q = x.S.worth x.plan := by
  have hsh := inv.short
  obtain ⟨L, h1, h2, h3⟩ := law_plans_on_e inv.v inv.b inv.bs
  have e1 := gN_e (n := 3) h1 rfl
  obtain ⟨δ', t, x6, ht⟩ := forL_fold (r := fun p d => d = encR p) (g := setD 6) (fb := lp_law_best_1)
    (fun (c : Option (List Int)) δ => (∀ q, c = some q → Ext x.S x.now x.begun q) ∧ ∃ x6, δ = [some (encT4 x), some (encS' x.S), some (.int x.now), some (encR x.begun), some (encR x.prom), some (encP c), x6]) (lstep x.S x.prom) (Al.map L) none [some (encT4 x), some (encS' x.S), some (.int x.now), some (encR x.begun), some (encR x.prom), some .none, none] ⟨(fun q z => nomatch z), _, rfl⟩ (by
      rintro c p d δ hp rfl ⟨hc, x6, rfl⟩
      have hpe := (h2 p).mp hp
      have g := hpe.good inv.b.has
      have gs := g.short inv.v
      have k1 := gN_e (n := 3) (law_keep_e (prom := x.prom) g.has (by omega) (by omega)) rfl
      have w1 := gN_e (n := 2) (law_worth_e inv.v g.has (by omega)) rfl
      refine ⟨[some (encT4 x), some (encS' x.S), some (.int x.now), some (encR x.begun), some (encR x.prom), some (encP c), some (encR p)], .nx [some (encT4 x), some (encS' x.S), some (.int x.now), some (encR x.begun), some (encR x.prom), some (encP (lstep x.S x.prom c p)), some (encR p)], by simp, ?_, .inl ⟨_, rfl, ?_, _, rfl⟩⟩
      · unfold lp_law_best_1
        have a1 : tB (bA (gN 3 f_law_keep) (aCons (vr 1) (aCons (vr 6) (aCons (vr 4) aNil)))) [some (encT4 x), some (encS' x.S), some (.int x.now), some (encR x.begun), some (encR x.prom), some (encP c), some (encR p)] = some (x.S.keeps p x.prom) := by
          rw [tB_e]
          show ((gN 3 f_law_keep [encS' x.S, encR p, encR x.prom]).bind _) = _
          rw [k1]; rfl
        have a2 : tB (b2 isN (vr 5) (cD .none)) [some (encT4 x), some (encS' x.S), some (.int x.now), some (encR x.begun), some (encR x.prom), some (encP c), some (encR p)] = some c.isNone := by simp
        rw [stIf_e, tAnd_e, a1, Option.bind_some]
        by_cases ck : x.S.keeps p x.prom = true
        · rw [ck, if_pos rfl, tOr_e, a2, Option.bind_some]
          cases c with
          | none =>
            have : lstep x.S x.prom none p = some p := if_pos ⟨ck, fun q z => nomatch z⟩
            rw [this]
            rfl
          | some q =>
            have gq := (hc q rfl).good inv.b.has
            have gqs := gq.short inv.v
            have w2 := gN_e (n := 2) (law_worth_e inv.v gq.has (by omega)) rfl
            have a3 : tB (b2 gtI (bA (gN 2 f_law_worth) (aCons (vr 1) (aCons (vr 6) aNil))) (bA (gN 2 f_law_worth) (aCons (vr 1) (aCons (vr 5) aNil)))) [some (encT4 x), some (encS' x.S), some (.int x.now), some (encR x.begun), some (encR x.prom), some (encP (some q)), some (encR p)] = some (decide (x.S.worth q < x.S.worth p)) := by
              rw [tB_e, b2_e]
              show (((gN 2 f_law_worth [encS' x.S, encR p]).bind fun a => (gN 2 f_law_worth [encS' x.S, encR q]).bind fun b => gtI a b).bind _) = _
              rw [w1, w2]
              rfl
            rw [if_neg (show ¬ (some q).isNone = true from nofun), a3, Option.bind_some]
            by_cases cw : x.S.worth q < x.S.worth p
            · have : lstep x.S x.prom (some q) p = some p := if_pos ⟨ck, fun r z => by cases z; exact cw⟩
              rw [this, decide_eq_true cw]
              rfl
            · have : lstep x.S x.prom (some q) p = some q := if_neg fun z => cw (z.2 q rfl)
              rw [this, decide_eq_false cw]
              rfl
        · have e : x.S.keeps p x.prom = false := by simpa using ck
          have : lstep x.S x.prom c p = c := if_neg fun z => ck z.1
          rw [this, e]
          rfl
      · intro q hq
        unfold lstep at hq
        split at hq
        · cases hq; exact hpe
        · exact hc q hq)
  obtain ⟨ht1, x6, rfl⟩ := (⟨x6, ht⟩ : _ ∧ _)
  have key : f_law_best [encT4 x] = some (.ok (encP (L.foldl (lstep x.S x.prom) none))) := by
    unfold f_law_best h_law_best runP
    show (sq _ _ [some (encT4 x), none, none, none, none, none, none]).bind outRs = _
    have s0 : stG (vr 0) (gT 4 (gsCons (setD 1) (gsCons (setD 2) (gsCons (setD 3) (gsCons (setD 4) gsNil))))) [some (encT4 x), none, none, none, none, none, none] = some (.nx [some (encT4 x), some (encS' x.S), some (.int x.now), some (encR x.begun), some (encR x.prom), none, none]) := rfl
    rw [sq_e, s0, Option.bind_some]
    show (sq _ _ _).bind outRs = _
    have s1 : stSet 5 (cD .none) [some (encT4 x), some (encS' x.S), some (.int x.now), some (encR x.begun), some (encR x.prom), none, none] = some (.nx [some (encT4 x), some (encS' x.S), some (.int x.now), some (encR x.begun), some (encR x.prom), some .none, none]) := rfl
    rw [sq_e, s1, Option.bind_some]
    show (sq _ _ _).bind outRs = _
    have r1 : listI (bA (gN 3 f_law_plans_on) (aCons (vr 1) (aCons (vr 2) (aCons (vr 3) aNil)))) [some (encT4 x), some (encS' x.S), some (.int x.now), some (encR x.begun), some (encR x.prom), some .none, none] = some (L.map encR) := by
      have z : bA (gN 3 f_law_plans_on) (aCons (vr 1) (aCons (vr 2) (aCons (vr 3) aNil))) [some (encT4 x), some (encS' x.S), some (.int x.now), some (encR x.begun), some (encR x.prom), some .none, none] = some (.list (L.map encR)) := by
        have z0 : aCons (vr 1) (aCons (vr 2) (aCons (vr 3) aNil)) [some (encT4 x), some (encS' x.S), some (.int x.now), some (encR x.begun), some (encR x.prom), some .none, none] = some [encS' x.S, .int x.now, encR x.begun] := rfl
        rw [bA_e, z0, Option.bind_some]
        exact e1
      rw [listI_e, z, Option.bind_some]
    have t' : forL (setD 6) lp_law_best_1 (L.map encR) [some (encT4 x), some (encS' x.S), some (.int x.now), some (encR x.begun), some (encR x.prom), some .none, none] = _ := t
    rw [sq_e, stFor_e, r1, Option.bind_some, t', Option.bind_some]
    rfl
  rw [key]
  rcases lfold x.S x.prom L with ⟨_, h⟩ | ⟨p, e, k1, k2, k3⟩
  · exact absurd inv.best.keeps (h _ ((h2 _).mpr inv.best.ext))
  · refine ⟨p, by rw [e]; rfl, (h2 p).mp k1, ?_⟩
    have a := k3 _ ((h2 _).mpr inv.best.ext) inv.best.keeps
    have b := (inv.best.top p ((h2 p).mp k1) k2).1
    omega
end Sk
set_option Elab.async false
set_option linter.all false
set_option maxRecDepth 100000
set_option maxHeartbeats 4000000
/-! The law's deed. -/
namespace Sk
open PySem L2 Dl
inductive Deed where
  | go (t : Int)
  | wish (w : Int) (rs : List Raw)
  | promise (w : Int)
  | release (w : Int)
  | lose (e : Int)
def encD : Deed → PyData
  | .go t => .tuple [.str "go", .int t]
  | .wish w rs => .tuple [.str "wish", .int w, .list (rs.map encW)]
  | .promise w => .tuple [.str "promise", .int w]
  | .release w => .tuple [.str "release", .int w]
  | .lose e => .tuple [.str "lose", .int e]
def Deed.ok : Deed → Prop
  | .wish _ rs => rs.length ≤ 1000
  | _ => True
theorem eqD_i (a b : Int) : eqD (.int a) (.int b) = some (.bool (decide (a = b))) := by
  unfold eqD
  rw [shaped_int, shaped_int]
  show some (PyData.bool (a == b)) = _
  by_cases h : a = b <;> simp [h]
def oi (a k : Int) : Int := if a = k then 1 else 0
theorem oi_r (a k : Int) : 0 ≤ oi a k ∧ oi a k ≤ 1 := by unfold oi; split <;> omega
theorem odd_e {f : Dt → Option PyData} {δ : Dt} {a k : Int} (h : f δ = some (.int a)) : bA toI (aCons (b2 eqD f (cD (.int k))) aNil) δ = some (.int (oi a k)) := by
  rw [bA_e, aCons_e, b2_e, h]
  show (((eqD (.int a) (.int k)).bind fun d => some [d])).bind toI = _
  rw [eqD_i, Option.bind_some, Option.bind_some, toI_b]
  unfold oi
  by_cases c : a = k <;> simp [c]
theorem odm_e {f : Dt → Option PyData} {δ : Dt} {a k m : Int} (h : f δ = some (.int a)) (hm : -(2 ^ 64) < m ∧ m < 2 ^ 64) : b2 mulI (bA toI (aCons (b2 eqD f (cD (.int k))) aNil)) (cD (.int m)) δ = some (.int (oi a k * m)) := by
  rw [b2_e, odd_e h]
  exact mulI_e (.inr hm)
theorem b2_of {g : PyData → PyData → Option PyData} {f h : Dt → Option PyData} {δ : Dt} {x y z : PyData} (h1 : f δ = some x) (h2 : h δ = some y) (h3 : g x y = some z) : b2 g f h δ = some z := by
  rw [b2_e, h1, h2]; exact h3
theorem tup2_e {f g : Dt → Option PyData} {δ : Dt} {a b : PyData} (h1 : f δ = some a) (h2 : g δ = some b) : bA (fun l => (szOk l).map PyData.tuple) (aCons f (aCons g aNil)) δ = some (.tuple [a, b]) := by
  rw [bA_e, aCons_e, aCons_e, h1, h2]
  show (szOk [a, b]).map PyData.tuple = _
  rw [szOk_2]; rfl
theorem tup3_e {f g h : Dt → Option PyData} {δ : Dt} {a b c : PyData} (h1 : f δ = some a) (h2 : g δ = some b) (h3 : h δ = some c) : bA (fun l => (szOk l).map PyData.tuple) (aCons f (aCons g (aCons h aNil))) δ = some (.tuple [a, b, c]) := by
  rw [bA_e, aCons_e, aCons_e, aCons_e, h1, h2, h3]
  show (szOk [a, b, c]).map PyData.tuple = _
  rw [szOk_3]; rfl
theorem tup4_e {f g h i : Dt → Option PyData} {δ : Dt} {a b c d : PyData} (h1 : f δ = some a) (h2 : g δ = some b) (h3 : h δ = some c) (h4 : i δ = some d) : bA (fun l => (szOk l).map PyData.tuple) (aCons f (aCons g (aCons h (aCons i aNil)))) δ = some (.tuple [a, b, c, d]) := by
  rw [bA_e, aCons_e, aCons_e, aCons_e, aCons_e, h1, h2, h3, h4]
  show (szOk [a, b, c, d]).map PyData.tuple = _
  rw [szOk_4]; rfl
theorem lst0_e (δ : Dt) : asL (bA (fun l => (szOk l).map .list) aNil) δ = some (.list []) := asL_e _ _ (by simp)
theorem deed_loop {c : List Int} (hc : c.length = 7) (p0 p2 p4 p5 : Option PyData) (now kind odd : Int) : ∀ (ks : List Int) (rs : List Raw) (x9 x10 x11 : Option PyData), (∀ k ∈ ks, 0 ≤ k ∧ k < 2) → rs.length + ks.length ≤ 1000 → ∃ (rs' : List Raw) (y9 y10 y11 : Option PyData), forL (setD 9) lp_law_deed_1 (ks.map .int) [p0, some (.list (c.map .int)), p2, some (.int now), p4, p5, some (.int kind), some (.int odd), some (.list (rs.map encW)), x9, x10, x11] = some (.nx [p0, some (.list (c.map .int)), p2, some (.int now), p4, p5, some (.int kind), some (.int odd), some (.list (rs'.map encW)), y9, y10, y11]) ∧ rs'.length = rs.length + ks.length := by
  intro ks
  induction ks with
  | nil => intro rs x9 x10 x11 _ _; exact ⟨rs, x9, x10, x11, rfl, rfl⟩
  | cons k ks ih =>
    intro rs x9 x10 x11 hk hl
    have hk0 := hk k List.mem_cons_self
    rw [List.length_cons] at hl
    obtain ⟨s, hs⟩ : ∃ s, s = now + dr c (2 + k) % 6 - oi odd 2 * 7 := ⟨_, rfl⟩
    obtain ⟨n, hn⟩ : ∃ n, n = 1 + dr c (3 + k) % 3 - oi odd 3 * 3 := ⟨_, rfl⟩
    obtain ⟨a, ha⟩ : ∃ a, a = dr c (4 + k) % 61 - 30 := ⟨_, rfl⟩
    obtain ⟨z, hz⟩ : ∃ z, z = 1 + dr c (5 + k) % 4 + oi odd 4 * 30 := ⟨_, rfl⟩
    have s1 : stSet 10 (b2 subI (b2 addI (vr 3) (b2 modI (bA toI (aCons (b2 ixD (vr 1) (b2 addI (cD (.int 2)) (vr 9))) aNil)) (cD (.int 6)))) (b2 mulI (bA toI (aCons (b2 eqD (vr 7) (cD (.int 2))) aNil)) (cD (.int 7)))) [p0, some (.list (c.map .int)), p2, some (.int now), p4, p5, some (.int kind), some (.int odd), some (.list (rs.map encW)), some (.int k), x10, x11] = some (.nx [p0, some (.list (c.map .int)), p2, some (.int now), p4, p5, some (.int kind), some (.int odd), some (.list (rs.map encW)), some (.int k), some (.int s), x11]) := by
      rw [stSet_e, b2_of (b2_of rfl (mod_dr (ds := c) (i := 2 + k) rfl rfl (by omega) rfl (by decide)) (addI_e _ _)) (odm_e (a := odd) rfl (by decide)) (subI_e _ _), hs]
      rfl
    have s2 : stSet 11 (b2 subI (b2 addI (cD (.int 1)) (b2 modI (bA toI (aCons (b2 ixD (vr 1) (b2 addI (cD (.int 3)) (vr 9))) aNil)) (cD (.int 3)))) (b2 mulI (bA toI (aCons (b2 eqD (vr 7) (cD (.int 3))) aNil)) (cD (.int 3)))) [p0, some (.list (c.map .int)), p2, some (.int now), p4, p5, some (.int kind), some (.int odd), some (.list (rs.map encW)), some (.int k), some (.int s), x11] = some (.nx [p0, some (.list (c.map .int)), p2, some (.int now), p4, p5, some (.int kind), some (.int odd), some (.list (rs.map encW)), some (.int k), some (.int s), some (.int n)]) := by
      rw [stSet_e, b2_of (b2_of rfl (mod_dr (ds := c) (i := 3 + k) rfl rfl (by omega) rfl (by decide)) (addI_e _ _)) (odm_e (a := odd) rfl (by decide)) (subI_e _ _), hn]
      rfl
    have s3 : stApp 8 (bA (fun l => (szOk l).map .tuple) (aCons (vr 10) (aCons (vr 11) (aCons (b2 subI (b2 modI (bA toI (aCons (b2 ixD (vr 1) (b2 addI (cD (.int 4)) (vr 9))) aNil)) (cD (.int 61))) (cD (.int 30))) (aCons (b2 addI (b2 addI (cD (.int 1)) (b2 modI (bA toI (aCons (b2 ixD (vr 1) (b2 addI (cD (.int 5)) (vr 9))) aNil)) (cD (.int 4)))) (b2 mulI (bA toI (aCons (b2 eqD (vr 7) (cD (.int 4))) aNil)) (cD (.int 30)))) aNil))))) [p0, some (.list (c.map .int)), p2, some (.int now), p4, p5, some (.int kind), some (.int odd), some (.list (rs.map encW)), some (.int k), some (.int s), some (.int n)] = some (.nx [p0, some (.list (c.map .int)), p2, some (.int now), p4, p5, some (.int kind), some (.int odd), some (.list ((rs ++ [Raw.mk s n a z]).map encW)), some (.int k), some (.int s), some (.int n)]) := by
      have t := tup4_e (δ := [p0, some (.list (c.map .int)), p2, some (.int now), p4, p5, some (.int kind), some (.int odd), some (.list (rs.map encW)), some (.int k), some (.int s), some (.int n)]) (f := vr 10) (g := vr 11) (a := .int s) (b := .int n) rfl rfl (b2_of (mod_dr (ds := c) (fd := vr 1) (fi := b2 addI (cD (.int 4)) (vr 9)) (fm := cD (.int 61)) (m := 61) (i := 4 + k) rfl rfl (by omega) rfl (by decide)) (rfl : cD (.int 30) _ = some (.int 30)) (subI_e _ _)) (b2_of (b2_of (rfl : cD (.int 1) _ = some (.int 1)) (mod_dr (ds := c) (fd := vr 1) (fi := b2 addI (cD (.int 5)) (vr 9)) (fm := cD (.int 4)) (m := 4) (i := 5 + k) rfl rfl (by omega) rfl (by decide)) (addI_e _ _)) (odm_e (f := vr 7) (a := odd) (k := 4) (m := 30) rfl (by decide)) (addI_e _ _))
      rw [← ha, ← hz] at t
      rw [app_e (d := encW (Raw.mk s n a z)) rfl t (by simp; omega), List.map_append]
      rfl
    have body : lp_law_deed_1 ([p0, some (.list (c.map .int)), p2, some (.int now), p4, p5, some (.int kind), some (.int odd), some (.list (rs.map encW)), x9, x10, x11].set 9 (some (.int k))) = some (.nx [p0, some (.list (c.map .int)), p2, some (.int now), p4, p5, some (.int kind), some (.int odd), some (.list ((rs ++ [Raw.mk s n a z]).map encW)), some (.int k), some (.int s), some (.int n)]) := by
      show lp_law_deed_1 [p0, some (.list (c.map .int)), p2, some (.int now), p4, p5, some (.int kind), some (.int odd), some (.list (rs.map encW)), some (.int k), x10, x11] = _
      unfold lp_law_deed_1
      rw [sq_e, s1, Option.bind_some]
      show sq _ _ _ = _
      rw [sq_e, s2, Option.bind_some]
      exact s3
    obtain ⟨rs', y9, y10, y11, e1, e2⟩ := ih (rs ++ [Raw.mk s n a z]) (some (.int k)) (some (.int s)) (some (.int n)) (fun j hj => hk j (List.mem_cons_of_mem _ hj)) (by rw [List.length_append, List.length_singleton]; omega)
    refine ⟨rs', y9, y10, y11, ?_, by rw [e2, List.length_append, List.length_singleton, List.length_cons]; omega⟩
    rw [List.map_cons]
    unfold forL
    rw [setD_e, Option.bind_some, body, Option.bind_some]
    exact e1
theorem len_W (x : Stt) {f : Dt → Option PyData} {δ : Dt} (h : f δ = some (encS' x.S)) : bA lenD (aCons (b2 ixD f (cD (.int 1))) aNil) δ = some (.int x.S.worths.length) := by
  rw [bA_e, aCons_e, b2_e, h]
  show (((ixD (encS' x.S) (.int 1)).bind fun d => some [d])).bind lenD = _
  have : ixD (encS' x.S) (.int 1) = some (.list (x.S.worths.map .int)) := by simp [encS']
  rw [this, Option.bind_some, Option.bind_some, lenD_e, List.length_map]
theorem len_E (x : Stt) {f : Dt → Option PyData} {δ : Dt} (h : f δ = some (encS' x.S)) : bA lenD (aCons (b2 ixD f (cD (.int 2))) aNil) δ = some (.int x.S.ears.length) := by
  rw [bA_e, aCons_e, b2_e, h]
  show (((ixD (encS' x.S) (.int 2)).bind fun d => some [d])).bind lenD = _
  have : ixD (encS' x.S) (.int 2) = some (.list (x.S.ears.map encE)) := by simp [encS']
  rw [this, Option.bind_some, Option.bind_some, lenD_e, List.length_map]
theorem len_P (p : List Int) {f : Dt → Option PyData} {δ : Dt} (h : f δ = some (encR p)) : bA lenD (aCons f aNil) δ = some (.int p.length) := by
  rw [bA_e, aCons_e, h]
  show lenD [PyData.list (p.map .int)] = _
  rw [lenD_e, List.length_map]
theorem ifR {c : Dt → Option Bool} {f g : Dt → Option Out} {δ δ' : Dt} {d : PyData} (h : c δ = some true) (h2 : f δ = some (.rt d δ')) : (sq (stIf c f stNx) g δ).bind outRs = some (.ok d) := by
  rw [sq_e, stIf_e, h, Option.bind_some, if_pos rfl, h2]; rfl
theorem ifN {c : Dt → Option Bool} {f g : Dt → Option Out} {δ : Dt} (h : c δ = some false) : sq (stIf c f stNx) g δ = g δ := by
  rw [sq_e, stIf_e, h, Option.bind_some, if_neg (by decide), stNx_e, Option.bind_some]
theorem tLt {f : Dt → Option PyData} {δ : Dt} {a k : Int} (h : f δ = some (.int a)) : tB (b2 ltI f (cD (.int k))) δ = some (decide (a < k)) := by
  rw [tB_e, b2_e, h]; rfl
theorem tGt {f : Dt → Option PyData} {δ : Dt} {a k : Int} (h : f δ = some (.int a)) : tB (b2 gtI f (cD (.int k))) δ = some (decide (k < a)) := by
  rw [tB_e, b2_e, h]; rfl
theorem tEq {f : Dt → Option PyData} {δ : Dt} {a k : Int} (h : f δ = some (.int a)) : tB (b2 eqD f (cD (.int k))) δ = some (decide (a = k)) := by
  rw [tB_e, b2_e, h]
  show ((eqD (.int a) (.int k))).bind _ = _
  rw [eqD_i]; rfl
theorem ltB_e {f : Dt → Option PyData} {δ : Dt} {a k : Int} (h : f δ = some (.int a)) : bA toI (aCons (b2 ltI f (cD (.int k))) aNil) δ = some (.int (if a < k then 1 else 0)) := by
  rw [bA_e, aCons_e, b2_e, h]
  show toI [PyData.bool (decide (a < k))] = _
  rw [toI_b]
  by_cases c : a < k <;> simp [c]
theorem ret_of {f : Dt → Option PyData} {δ : Dt} {d : PyData} (h : f δ = some d) : stRet f δ = some (.rt d δ) := by rw [stRet_e, h]; rfl
theorem law_deed_e {x : Stt} (inv : Inv x) {c : List Int} (hc : c.length = 7) : ∃ d : Deed, f_law_deed [encT4 x, .list (c.map .int)] = some (.ok (encD d)) ∧ d.ok := by
  have hsh := inv.short
  have hnw := inv.v.nw
  obtain ⟨kind, hkind⟩ : ∃ k, k = dr c 0 % 9 := ⟨_, rfl⟩
  obtain ⟨odd, hodd⟩ : ∃ k, k = dr c 1 % 12 := ⟨_, rfl⟩
  have s0 : stG (vr 0) (gT 4 (gsCons (setD 2) (gsCons (setD 3) (gsCons (setD 4) (gsCons (setD 5) gsNil))))) [some (encT4 x), some (.list (c.map .int)), none, none, none, none, none, none, none, none, none, none] = some (.nx [some (encT4 x), some (.list (c.map .int)), some (encS' x.S), some (.int x.now), some (encR x.begun), some (encR x.prom), none, none, none, none, none, none]) := rfl
  have s1 : stPar 6 7 (aCons (b2 modI (bA toI (aCons (b2 ixD (vr 1) (cD (.int 0))) aNil)) (cD (.int 9))) (aCons (b2 modI (bA toI (aCons (b2 ixD (vr 1) (cD (.int 1))) aNil)) (cD (.int 12))) aNil)) [some (encT4 x), some (.list (c.map .int)), some (encS' x.S), some (.int x.now), some (encR x.begun), some (encR x.prom), none, none, none, none, none, none] = some (.nx [some (encT4 x), some (.list (c.map .int)), some (encS' x.S), some (.int x.now), some (encR x.begun), some (encR x.prom), some (.int kind), some (.int odd), none, none, none, none]) := by
    unfold stPar
    rw [aCons_e, mod_dr (ds := c) (i := 0) rfl rfl (by omega) rfl (by decide), aCons_e, mod_dr (ds := c) (i := 1) rfl rfl (by omega) rfl (by decide), hkind, hodd]
    rfl
  obtain ⟨δ, hδ⟩ : ∃ δ : Dt, δ = [some (encT4 x), some (.list (c.map .int)), some (encS' x.S), some (.int x.now), some (encR x.begun), some (encR x.prom), some (.int kind), some (.int odd), none, none, none, none] := ⟨_, rfl⟩
  have v1 : vr 1 δ = some (.list (c.map .int)) := by rw [hδ]; rfl
  have v2 : vr 2 δ = some (encS' x.S) := by rw [hδ]; rfl
  have v3 : vr 3 δ = some (.int x.now) := by rw [hδ]; rfl
  have v5 : vr 5 δ = some (encR x.prom) := by rw [hδ]; rfl
  have v6 : vr 6 δ = some (.int kind) := by rw [hδ]; rfl
  have v7 : vr 7 δ = some (.int odd) := by rw [hδ]; rfl
  have md : ∀ (i m : Int) (fm : Dt → Option PyData), 0 ≤ i → i < 7 → fm δ = some (.int m) → 0 < m → b2 modI (bA toI (aCons (b2 ixD (vr 1) (cD (.int i))) aNil)) fm δ = some (.int (dr c i % m)) := fun i m fm h1 h2 h3 h4 => mod_dr (ds := c) (i := i) v1 rfl (by omega) h3 h4
  rw [← hδ] at s1
  unfold f_law_deed h_law_deed runP
  show ∃ d : Deed, (sq _ _ [some (encT4 x), some (.list (c.map .int)), none, none, none, none, none, none, none, none, none, none]).bind outRs = _ ∧ _
  rw [sq_e, s0, Option.bind_some]
  show ∃ d : Deed, (sq _ _ _).bind outRs = _ ∧ _
  rw [sq_e, s1, Option.bind_some]
  show ∃ d : Deed, (sq _ _ _).bind outRs = _ ∧ _
  have w1 := oi_r odd 0
  have w2 := oi_r odd 1
  have w3 : oi odd 0 + 2 * oi odd 1 ≤ 2 := by unfold oi; split <;> split <;> omega
  by_cases c1 : kind < 2
  · have t1 : tB (b2 ltI (vr 6) (cD (.int 2))) δ = some true := by rw [tLt v6, decide_eq_true c1]
    obtain ⟨t, ht⟩ : ∃ t, b2 ixD (asL (bA (fun l => (szOk l).map .list) (aCons (b2 addI (vr 3) (b2 modI (bA toI (aCons (b2 ixD (vr 1) (cD (.int 2))) aNil)) (cD (.int 4)))) (aCons (b2 subI (vr 3) (cD (.int 1))) (aCons (cD (.int 201)) aNil))))) (b2 addI (bA toI (aCons (b2 eqD (vr 7) (cD (.int 0))) aNil)) (b2 mulI (cD (.int 2)) (bA toI (aCons (b2 eqD (vr 7) (cD (.int 1))) aNil)))) δ = some (.int t) := by
      have l1 : asL (bA (fun l => (szOk l).map .list) (aCons (b2 addI (vr 3) (b2 modI (bA toI (aCons (b2 ixD (vr 1) (cD (.int 2))) aNil)) (cD (.int 4)))) (aCons (b2 subI (vr 3) (cD (.int 1))) (aCons (cD (.int 201)) aNil)))) δ = some (.list ([x.now + dr c 2 % 4, x.now - 1, 201].map .int)) := by
        refine asL_e _ _ ?_
        rw [bA_e, aCons_e, b2_of v3 (md 2 4 _ (by decide) (by decide) rfl (by decide)) (addI_e _ _), aCons_e, b2_of v3 (rfl : cD (.int 1) δ = some (.int 1)) (subI_e _ _)]
        show (szOk [PyData.int (x.now + dr c 2 % 4), .int (x.now - 1), .int 201]).map PyData.list = _
        rw [szOk_3]; rfl
      have l2 : b2 addI (bA toI (aCons (b2 eqD (vr 7) (cD (.int 0))) aNil)) (b2 mulI (cD (.int 2)) (bA toI (aCons (b2 eqD (vr 7) (cD (.int 1))) aNil))) δ = some (.int (oi odd 0 + 2 * oi odd 1)) :=
        b2_of (odd_e v7) (b2_of (rfl : cD (.int 2) δ = some (.int 2)) (odd_e v7) (mulI_e (.inl ⟨by decide, by decide⟩))) (addI_e _ _)
      refine ⟨_, b2_of l1 l2 (ix_dr ⟨by omega, by show oi odd 0 + 2 * oi odd 1 < 3; omega⟩)⟩
    exact ⟨.go t, ifR t1 (ret_of (tup2_e rfl ht)), trivial⟩
  have t1 : tB (b2 ltI (vr 6) (cD (.int 2))) δ = some false := by rw [tLt v6, decide_eq_false c1]
  rw [ifN t1]
  by_cases c2 : kind < 5
  · have t2 : tB (b2 ltI (vr 6) (cD (.int 5))) δ = some true := by rw [tLt v6, decide_eq_true c2]
    have m3 := mod_rng (dr c 3) (m := 3) (by decide)
    obtain ⟨rs, y9, y10, y11, e1, e2⟩ := deed_loop hc (some (encT4 x)) (some (encS' x.S)) (some (encR x.begun)) (some (encR x.prom)) x.now kind odd (rng 0 (dr c 3 % 3)) [] none none none (fun k hk => by have := mem_rng.mp hk; omega) (by rw [rng_len]; simp; omega)
    have q1 : stSet 8 (asL (bA (fun l => (szOk l).map .list) aNil)) δ = some (.nx [some (encT4 x), some (.list (c.map .int)), some (encS' x.S), some (.int x.now), some (encR x.begun), some (encR x.prom), some (.int kind), some (.int odd), some (.list []), none, none, none]) := by
      rw [stSet_e, lst0_e, hδ]; rfl
    have q2 : rng1 (aCons (b2 modI (bA toI (aCons (b2 ixD (vr 1) (cD (.int 3))) aNil)) (cD (.int 3))) aNil) [some (encT4 x), some (.list (c.map .int)), some (encS' x.S), some (.int x.now), some (encR x.begun), some (encR x.prom), some (.int kind), some (.int odd), some (.list []), none, none, none] = some ((rng 0 (dr c 3 % 3)).map .int) := by
      refine rng1_e (by omega) ?_
      rw [aCons_e, mod_dr (ds := c) (i := 3) rfl rfl (by omega) rfl (by decide)]
      rfl
    have e1' : forL (setD 9) lp_law_deed_1 ((rng 0 (dr c 3 % 3)).map .int) [some (encT4 x), some (.list (c.map .int)), some (encS' x.S), some (.int x.now), some (encR x.begun), some (encR x.prom), some (.int kind), some (.int odd), some (.list []), none, none, none] = _ := e1
    refine ⟨.wish (dr c 6 % 10 + oi odd 5 * 95) rs, ifR t2 (δ' := [some (encT4 x), some (.list (c.map .int)), some (encS' x.S), some (.int x.now), some (encR x.begun), some (encR x.prom), some (.int kind), some (.int odd), some (.list (rs.map encW)), y9, y10, y11]) ?_, by show rs.length ≤ 1000; rw [e2, rng_len]; simp; omega⟩
    rw [sq_e, q1, Option.bind_some]
    show sq _ _ _ = _
    rw [sq_e, stFor_e, q2, Option.bind_some, e1', Option.bind_some]
    show stRet _ _ = _
    exact ret_of (tup3_e rfl (b2_of (mod_dr (ds := c) (i := 6) rfl rfl (by omega) rfl (by decide)) (odm_e (a := odd) rfl (by decide)) (addI_e _ _)) rfl)
  have t2 : tB (b2 ltI (vr 6) (cD (.int 5))) δ = some false := by rw [tLt v6, decide_eq_false c2]
  rw [ifN t2]
  by_cases c3 : kind < 7
  · have t3 : tB (b2 ltI (vr 6) (cD (.int 7))) δ = some true := by rw [tLt v6, decide_eq_true c3]
    obtain ⟨b, hb⟩ : ∃ b : Int, b = if odd < 3 then 1 else 0 := ⟨_, rfl⟩
    have hb0 : 0 ≤ b := by rw [hb]; split <;> decide
    have z : bA toI (aCons (b2 ltI (vr 7) (cD (.int 3))) aNil) δ = some (.int b) := by rw [ltB_e v7, hb]
    exact ⟨.promise _, ifR t3 (ret_of (tup2_e rfl (md 2 (x.S.worths.length + b) _ (by decide) (by decide) (b2_of (len_W x v2) z (addI_e _ _)) (by omega)))), trivial⟩
  have t3 : tB (b2 ltI (vr 6) (cD (.int 7))) δ = some false := by rw [tLt v6, decide_eq_false c3]
  rw [ifN t3]
  have t4 : tAndD (tB (b2 eqD (vr 6) (cD (.int 7)))) (tAndD (tB (b2 gtI (bA lenD (aCons (vr 5) aNil)) (cD (.int 0)))) (tB (b2 gtI (vr 7) (cD (.int 3))))) δ = some (decide (kind = 7) && (decide (0 < (x.prom.length : Int)) && decide (3 < odd))) := by
    rw [tAnd_e, tEq v6, Option.bind_some, tAnd_e, tGt (len_P _ v5), Option.bind_some, tGt v7]
    cases decide (kind = 7) <;> cases decide (0 < (x.prom.length : Int)) <;> rfl
  by_cases c4 : kind = 7 ∧ 0 < (x.prom.length : Int) ∧ 3 < odd
  · rw [decide_eq_true c4.1, decide_eq_true c4.2.1, decide_eq_true c4.2.2] at t4
    have mm := mod_rng (dr c 2) c4.2.1
    exact ⟨.release _, ifR t4 (ret_of (tup2_e rfl (b2_of v5 (md 2 x.prom.length _ (by decide) (by decide) (len_P _ v5) c4.2.1) (ix_dr (ds := x.prom) mm)))), trivial⟩
  have t4' : (decide (kind = 7) && (decide (0 < (x.prom.length : Int)) && decide (3 < odd))) = false := by
    by_cases a1 : kind = 7
    · by_cases a2 : 0 < (x.prom.length : Int)
      · rw [decide_eq_false fun a3 : 3 < odd => c4 ⟨a1, a2, a3⟩, Bool.and_false, Bool.and_false]
      · rw [decide_eq_false a2, Bool.false_and, Bool.and_false]
    · rw [decide_eq_false a1, Bool.false_and]
  rw [t4'] at t4
  rw [ifN t4]
  have pw : b2 addI (bA lenD (aCons (b2 ixD (vr 2) (cD (.int 1))) aNil)) (cD (.int 1)) δ = some (.int (x.S.worths.length + 1)) := b2_of (len_W x v2) rfl (addI_e _ _)
  have pe : b2 addI (bA lenD (aCons (b2 ixD (vr 2) (cD (.int 2))) aNil)) (cD (.int 1)) δ = some (.int (x.S.ears.length + 1)) := b2_of (len_E x v2) rfl (addI_e _ _)
  by_cases c5 : kind = 7
  · have t5 : tB (b2 eqD (vr 6) (cD (.int 7))) δ = some true := by rw [tEq v6, decide_eq_true c5]
    exact ⟨.release _, ifR t5 (ret_of (tup2_e rfl (b2_of (md 2 _ _ (by decide) (by decide) pw (by omega)) (odd_e v7) (subI_e _ _)))), trivial⟩
  have t5 : tB (b2 eqD (vr 6) (cD (.int 7))) δ = some false := by rw [tEq v6, decide_eq_false c5]
  rw [ifN t5]
  refine ⟨.lose (dr c 2 % (x.S.ears.length + 1) - oi odd 0), ?_, trivial⟩
  rw [ret_of (tup2_e rfl (b2_of (md 2 _ _ (by decide) (by decide) pe (by omega)) (odd_e v7) (subI_e _ _)))]
  rfl
end Sk
set_option Elab.async false
set_option linter.all false
set_option maxRecDepth 100000
set_option maxHeartbeats 4000000
/-! The law does a deed. -/
namespace Sk
open PySem L2 Dl
/-- what a deed that is let leaves and tells -/
def Done (x y : Stt) (told : PyData) : Deed → Prop
  | .go t => y = x.go t ∧ ∃ fresh, told = .list fresh
  | .wish _ _ => (∃ i, told = .int i) ∧ y.prom = x.prom ∧ x.S.worth x.plan ≤ y.S.worth y.plan
  | .promise w => (∃ i, told = .int i) ∧ (∀ u, u ∈ y.prom ↔ u ∈ x.prom ∨ u = w) ∧ y.S.worth y.plan ≤ x.S.worth x.plan
  | .release _ => (∃ i, told = .int i) ∧ x.S.worth x.plan ≤ y.S.worth y.plan
  | .lose _ => told = encR (x.prom.filter fun w => !decide (w ∈ y.prom)) ∧ ((∀ w ∈ x.prom, w ∈ y.prom) → y.S.worth y.plan ≤ x.S.worth x.plan)
def tag : Deed → Str
  | .go _ => "go"
  | .wish _ _ => "wish"
  | .promise _ => "promise"
  | .release _ => "release"
  | .lose _ => "lose"
theorem encD_0 (d : Deed) : ixD (encD d) (.int 0) = some (.str (tag d)) := by cases d <;> exact ixT0 _ _
theorem tag_eq (d : Deed) (s : Str) {b : Bool} (h : eqD (.str (tag d)) (.str s) = some (.bool b)) {f : Dt → Option PyData} {δ : Dt} (hf : f δ = some (encD d)) : tB (b2 eqD (b2 ixD f (cD (.int 0))) (cD (.str s))) δ = some b := by
  rw [tB_e, b2_e, b2_e, hf]
  show (((ixD (encD d) (.int 0)).bind fun a => eqD a (.str s))).bind _ = _
  rw [encD_0, Option.bind_some, h]; rfl
theorem rM_ok {m : Str} {n : Nat} {g : List (PyData × PyData) → List PyData → Option Rm} {f : Dt → Option (List PyData)} {kvs kvs' : List (PyData × PyData)} {δ : Dt} {ds : List PyData} {d : PyData} (hm : noF m kvs = true) (hf : f (some (tagO kvs) :: δ) = some ds) (hl : ds.length + 1 = n) (hg : g kvs ds = some (.ok d kvs')) : stRetE (eMeth 0 m n g f) (some (tagO kvs) :: δ) = some (.rt d (some (tagO kvs') :: δ)) := by
  unfold stRetE eMeth
  show (if noF m kvs = true then (f (some (tagO kvs) :: δ)).bind (fun ds => if ds.length + 1 = n then (g kvs ds).map _ else none) else none).map _ = _
  rw [if_pos hm, hf, Option.bind_some, if_pos hl, hg]
  rfl
theorem rM_ex {m : Str} {n : Nat} {g : List (PyData × PyData) → List PyData → Option Rm} {f : Dt → Option (List PyData)} {kvs kvs' : List (PyData × PyData)} {δ : Dt} {ds : List PyData} {c : Nat} (hm : noF m kvs = true) (hf : f (some (tagO kvs) :: δ) = some ds) (hl : ds.length + 1 = n) (hg : g kvs ds = some (.ex c kvs')) : stRetE (eMeth 0 m n g f) (some (tagO kvs) :: δ) = some (.ex c (some (tagO kvs') :: δ)) := by
  unfold stRetE eMeth
  show (if noF m kvs = true then (f (some (tagO kvs) :: δ)).bind (fun ds => if ds.length + 1 = n then (g kvs ds).map _ else none) else none).map _ = _
  rw [if_pos hm, hf, Option.bind_some, if_pos hl, hg]
  rfl
theorem ifT {c : Dt → Option Bool} {f g : Dt → Option Out} {δ : Dt} {o : Out} (h : c δ = some true) (h2 : f δ = some o) (ho : ∀ δ', o ≠ .nx δ') : sq (stIf c f stNx) g δ = some o := by
  rw [sq_e, stIf_e, h, Option.bind_some, if_pos rfl, h2, Option.bind_some]
  cases o <;> first | rfl | exact absurd rfl (ho _)
theorem nm_e : ∀ c, c < 7 → ∃ nm, nmOf c = some nm := by
  have h : ∀ c, c < 7 → (nmOf c).isSome = true := by decide +kernel
  exact fun c hc => Option.isSome_iff_exists.mp (h c hc)
theorem try_rt {nm : Nat → Option Str} {tx : Str} {f : Dt → Option Out} {δ δ' : Dt} {d : PyData} (h : f δ = some (.rt d δ')) : stTry nm tx f δ = some (.rt d δ') := by
  unfold stTry
  rw [h]; rfl
theorem try_ex {nm : Nat → Option Str} {tx : Str} {f : Dt → Option Out} {δ δ' : Dt} {c : Nat} {n : Str} (h : f δ = some (.ex c δ')) (hn : nm c = some n) : stTry nm tx f δ = some (.rt (.tuple [.str tx, .str n]) δ') := by
  unfold stTry
  rw [h, Option.bind_some]
  show (nm c).map _ = _
  rw [hn]; rfl
theorem a_ix1 {f : Dt → Option PyData} {δ : Dt} {a b : PyData} {l : List PyData} (h : f δ = some (.tuple (a :: b :: l))) : aCons (b2 ixD f (cD (.int 1))) aNil δ = some [b] := by
  rw [aCons_e, b2_e, h]
  show ((ixD (.tuple (a :: b :: l)) (.int 1)).bind _) = _
  rw [ixT1]; rfl
theorem law_do_e {n : Nat} {x : Stt} {kvs : List (PyData × PyData)} (h : Con n x kvs) (hn : n ≤ 1000) (inv : Inv x) (d : Deed) (ok : d.ok) : (∃ nm, f_law_do kvs [encD d] = some (.ok (.tuple [.str "raised", .str nm]) kvs)) ∨ ∃ kvs' told y, f_law_do kvs [encD d] = some (.ok told kvs') ∧ Con (n + 1) y kvs' ∧ Inv y ∧ Done x y told d := by
  unfold f_law_do h_law_do runM
  have wrap : ∀ {f : Dt → Option Out}, (∃ c, c < 7 ∧ f [some (tagO kvs), some (encD d), none, none] = some (.ex c [some (tagO kvs), some (encD d), none, none])) ∨ (∃ kvs' told y, f [some (tagO kvs), some (encD d), none, none] = some (.rt told [some (tagO kvs'), some (encD d), none, none]) ∧ Con (n + 1) y kvs' ∧ Inv y ∧ Done x y told d) → (∃ nm, (stTry nmOf "raised" f (startD ["_law_console", "_law_deed_here", "_law_look", "e"] (tagO kvs :: [encD d]))).bind outRm = some (.ok (.tuple [.str "raised", .str nm]) kvs)) ∨ ∃ kvs' told y, (stTry nmOf "raised" f (startD ["_law_console", "_law_deed_here", "_law_look", "e"] (tagO kvs :: [encD d]))).bind outRm = some (.ok told kvs') ∧ Con (n + 1) y kvs' ∧ Inv y ∧ Done x y told d := by
    intro f hf
    rcases hf with ⟨c, hc, e⟩ | ⟨kvs', told, y, e, r⟩
    · obtain ⟨nm, hnm⟩ := nm_e c hc
      refine .inl ⟨nm, ?_⟩
      show (stTry nmOf "raised" f [some (tagO kvs), some (encD d), none, none]).bind outRm = _
      rw [try_ex e hnm]
      rfl
    · refine .inr ⟨kvs', told, y, ?_, r⟩
      show (stTry nmOf "raised" f [some (tagO kvs), some (encD d), none, none]).bind outRm = _
      rw [try_rt e]
      rfl
  refine wrap ?_
  have v1 : vr 1 [some (tagO kvs), some (encD d), none, none] = some (encD d) := rfl
  cases d with
  | go t =>
    have c1 := tag_eq (.go t) "go" (b := true) (by kernel_rfl) v1
    rcases go_e h hn inv t with ⟨_, e⟩ | ⟨_, kvs', fresh, e, h', inv'⟩
    · exact .inl ⟨3, by decide, ifT c1 (rM_ex (h.noF fun _ _ _ => rfl) (a_ix1 v1) rfl e) nofun⟩
    · exact .inr ⟨kvs', _, _, ifT c1 (rM_ok (h.noF fun _ _ _ => rfl) (a_ix1 v1) rfl e) nofun, h', inv', rfl, fresh, rfl⟩
  | wish w rs =>
    have c1 := tag_eq (.wish w rs) "go" (b := false) (by kernel_rfl) v1
    have c2 := tag_eq (.wish w rs) "wish" (b := true) (by kernel_rfl) v1
    have ok : rs.length ≤ 1000 := ok
    have a1 : cp_law_do_1 [some (tagO kvs), some (encD (.wish w rs)), none, none] = some (.list (rs.map encW)) := by
      unfold cp_law_do_1
      refine lcD_e (ds := rs.map encW) ?_ (by simp; omega) ?_
      · rw [listI_e, b2_e, v1]
        show ((ixD (encD (.wish w rs)) (.int 2)).bind _) = _
        rw [show encD (.wish w rs) = .tuple [.str "wish", .int w, .list (rs.map encW)] from rfl, ixT2]
        rfl
      · exact lc_all (f := encW) _ rs fun r hr => ⟨[some (tagO kvs), some (encD (.wish w rs)), some (encW r), none], by simp [wipeD], by simp⟩
    have a2 : aCons (b2 ixD (vr 1) (cD (.int 1))) (aCons (asL cp_law_do_1) aNil) [some (tagO kvs), some (encD (.wish w rs)), none, none] = some [.int w, .list (rs.map encW)] := by
      have i1 : b2 ixD (vr 1) (cD (.int 1)) [some (tagO kvs), some (encD (.wish w rs)), none, none] = some (.int w) := b2_of v1 rfl (ixT1 _ _ _)
      rw [aCons_e, i1, aCons_e, asL_e _ _ a1]
      rfl
    rcases wish_e h hn inv w rs ok with ⟨c, hc, e⟩ | ⟨kvs', i, p, e, h', inv', le⟩
    · refine .inl ⟨c, hc, ?_⟩
      rw [ifN c1]
      exact ifT c2 (rM_ex (h.noF fun _ _ _ => rfl) a2 rfl e) nofun
    · refine .inr ⟨kvs', _, _, ?_, h', inv', ⟨i, rfl⟩, rfl, le⟩
      rw [ifN c1]
      exact ifT c2 (rM_ok (h.noF fun _ _ _ => rfl) a2 rfl e) nofun
  | promise w =>
    have c1 := tag_eq (.promise w) "go" (b := false) (by kernel_rfl) v1
    have c2 := tag_eq (.promise w) "wish" (b := false) (by kernel_rfl) v1
    have c3 := tag_eq (.promise w) "promise" (b := true) (by kernel_rfl) v1
    rcases promise_e h hn inv w with ⟨_, c, hc, e⟩ | ⟨kvs', i, p, e, h', inv', le⟩
    · refine .inl ⟨c, hc, ?_⟩
      rw [ifN c1, ifN c2]
      exact ifT c3 (rM_ex (h.noF fun _ _ _ => rfl) (a_ix1 v1) rfl e) nofun
    · refine .inr ⟨kvs', _, _, ?_, h', inv', ⟨i, rfl⟩, fun u => ?_, le⟩
      · rw [ifN c1, ifN c2]
        exact ifT c3 (rM_ok (h.noF fun _ _ _ => rfl) (a_ix1 v1) rfl e) nofun
      · show u ∈ (x.prom ++ [w]).mergeSort _ ↔ _
        rw [List.mem_mergeSort, List.mem_append, List.mem_singleton]
  | release w =>
    have c1 := tag_eq (.release w) "go" (b := false) (by kernel_rfl) v1
    have c2 := tag_eq (.release w) "wish" (b := false) (by kernel_rfl) v1
    have c3 := tag_eq (.release w) "promise" (b := false) (by kernel_rfl) v1
    have c4 := tag_eq (.release w) "release" (b := true) (by kernel_rfl) v1
    rcases release_e h hn inv w with ⟨c, hc, e⟩ | ⟨kvs', i, p, e, h', inv', le⟩
    · refine .inl ⟨c, hc, ?_⟩
      rw [ifN c1, ifN c2, ifN c3]
      exact ifT c4 (rM_ex (h.noF fun _ _ _ => rfl) (a_ix1 v1) rfl e) nofun
    · refine .inr ⟨kvs', _, _, ?_, h', inv', ⟨i, rfl⟩, le⟩
      rw [ifN c1, ifN c2, ifN c3]
      exact ifT c4 (rM_ok (h.noF fun _ _ _ => rfl) (a_ix1 v1) rfl e) nofun
  | lose w =>
    have c1 := tag_eq (.lose w) "go" (b := false) (by kernel_rfl) v1
    have c2 := tag_eq (.lose w) "wish" (b := false) (by kernel_rfl) v1
    have c3 := tag_eq (.lose w) "promise" (b := false) (by kernel_rfl) v1
    have c4 := tag_eq (.lose w) "release" (b := false) (by kernel_rfl) v1
    have c5 := tag_eq (.lose w) "lose" (b := true) (by kernel_rfl) v1
    rcases lose_e h hn inv w with ⟨_, c, hc, e⟩ | ⟨kvs', p, e, h', inv', le⟩
    · refine .inl ⟨c, hc, ?_⟩
      rw [ifN c1, ifN c2, ifN c3, ifN c4]
      exact ifT c5 (rM_ex (h.noF fun _ _ _ => rfl) (a_ix1 v1) rfl e) nofun
    · refine .inr ⟨kvs', _, _, ?_, h', inv', rfl, le⟩
      rw [ifN c1, ifN c2, ifN c3, ifN c4]
      exact ifT c5 (rM_ok (h.noF fun _ _ _ => rfl) (a_ix1 v1) rfl e) nofun
end Sk
set_option Elab.async false
set_option linter.all false
set_option maxRecDepth 100000
set_option maxHeartbeats 4000000
/-! The law's state as text; a lost promise. -/
namespace Sk
open PySem L2 Dl PyProof.Rows
/-- small data -/
structure Sm (n b : Nat) (d : PyData) : Prop where
  s : d.leavesShort 13 = true
  w : d.showable = true
  h : d.hasDict = false
  n : d.depth ≤ n
  b : d.bulk ≤ b
  p : plain d = true
  a : ∀ c ∈ d.shown.cps.toList, c < 1114112
theorem Sm.int {i : Int} (h : -1000000 ≤ i ∧ i ≤ 1000000) : Sm 0 0 (.int i) := by
  refine ⟨?_, ?_, rfl, Nat.le_refl _, Nat.le_refl _, rfl, fun c hc => ?_⟩
  rotate_left 2
  · by_cases z : c < 1114112
    · exact z
    · exact absurd hc (shown_int_free' ⟨by omega, by omega⟩ i)
  · simp only [PyData.leavesShort, decide_eq_true_eq]
    exact PyData.shown_int_le2 (by omega) (by omega)
  · simp only [PyData.showable, decide_eq_true_eq]
    by_cases z : i.natAbs = 0
    · rw [z]; decide
    · rw [Nat.log2_lt z]
      have h1 : i.natAbs < 2 ^ 20 := by omega
      exact Nat.lt_of_lt_of_le h1 (Nat.pow_le_pow_right (by decide) (by decide))
structure SmA (n b : Nat) (ds : List PyData) : Prop where
  s : PyData.leavesShortAll 13 ds = true
  w : PyData.showableAll ds = true
  h : PyData.hasDictAll ds = false
  n : PyData.depthAll ds ≤ n
  b : PyData.bulkAll ds ≤ ds.length * (b + 1)
  p : plainAll ds = true
  a : ∀ t ∈ PyData.shownAll ds, ∀ c ∈ t.cps.toList, c < 1114112
theorem SmA.of {n b : Nat} : ∀ {ds : List PyData}, (∀ d ∈ ds, Sm n b d) → SmA n b ds
  | [], _ => ⟨by simp [PyData.leavesShortAll], by simp [PyData.showableAll], by simp [PyData.hasDictAll], by simp [PyData.depthAll], by simp [PyData.bulkAll], rfl, by simp [PyData.shownAll]⟩
  | d :: ds, h => by
    have h1 := h d List.mem_cons_self
    have h2 := SmA.of fun e he => h e (List.mem_cons_of_mem _ he)
    refine ⟨by simp [PyData.leavesShortAll, h1.s, h2.s], by simp [PyData.showableAll, h1.w, h2.w], by simp [PyData.hasDictAll, h1.h, h2.h], ?_, ?_, ?_, ?_⟩
    · have := h1.n
      have := h2.n
      rw [PyData.depthAll]
      omega
    · have e1 := h1.b
      have e2 := h2.b
      rw [PyData.bulkAll, List.length_cons, Nat.add_mul]
      omega
    · show (plain d && plainAll ds) = true
      rw [h1.p, h2.p]; rfl
    · intro t ht
      rw [PyData.shownAll_cons, List.mem_cons] at ht
      rcases ht with rfl | ht
      · exact h1.a
      · exact h2.a t ht
theorem Sm.list {n b m : Nat} {ds : List PyData} (h : ∀ d ∈ ds, Sm n b d) (hl : ds.length ≤ m) : Sm (n + 1) (m * (b + 1)) (.list ds) := by
  have z := SmA.of h
  refine ⟨by simp [PyData.leavesShort, z.s], by simp [PyData.showable, z.w], by simp [PyData.hasDict, z.h], ?_, ?_, z.p, ?_⟩
  · have := z.n
    rw [PyData.depth]; omega
  · have := z.b
    rw [PyData.bulk]
    exact Nat.le_trans this (Nat.mul_le_mul_right _ hl)
  · intro c hc
    rw [PyData.shown_list, mem_cps_append, mem_cps_append, signs_lbrack, signs_rbrack, mem_join, signs_sep] at hc
    simp only [List.mem_cons, List.not_mem_nil, or_false] at hc
    rcases hc with (hc | (⟨t, ht, hc⟩ | ⟨_, hc⟩)) | hc
    · omega
    · exact z.a t ht c hc
    · omega
    · omega
theorem Sm.tup {n b m : Nat} {ds : List PyData} (h : ∀ d ∈ ds, Sm n b d) (hl : ds.length ≤ m) : Sm (n + 1) (m * (b + 1)) (.tuple ds) := by
  have z := SmA.of h
  refine ⟨by simp [PyData.leavesShort, z.s], by simp [PyData.showable, z.w], by simp [PyData.hasDict, z.h], ?_, ?_, z.p, ?_⟩
  · have := z.n
    rw [PyData.depth]; omega
  · have := z.b
    rw [PyData.bulk]
    exact Nat.le_trans this (Nat.mul_le_mul_right _ hl)
  · intro c hc
    rw [PyData.shown_tuple, mem_cps_append, mem_cps_append, signs_lparen, mem_join, signs_sep] at hc
    have e1 : ((",)" : String) : Str).cps.toList = [44, 41] := by decide
    have e2 : ((")" : String) : Str).cps.toList = [41] := by decide
    have hz : c ∈ (((if (ds.length == 1) = true then ",)" else ")" : String)) : Str).cps.toList → c = 44 ∨ c = 41 := by
      intro h
      by_cases q : (ds.length == 1) = true
      · rw [if_pos q, e1] at h
        simpa using h
      · rw [if_neg q, e2] at h
        right
        simpa using h
    simp only [List.mem_cons, List.not_mem_nil, or_false] at hc
    rcases hc with (hc | (⟨t, ht, hc⟩ | ⟨_, hc⟩)) | hc
    · omega
    · exact z.a t ht c hc
    · omega
    · have := hz hc
      omega
theorem Sm.mono {n b n' b' : Nat} {d : PyData} (h : Sm n b d) (h1 : n ≤ n') (h2 : b ≤ b') : Sm n' b' d := ⟨h.s, h.w, h.h, Nat.le_trans h.n h1, Nat.le_trans h.b h2, h.p, h.a⟩
theorem Sm.ints {l : List Int} {m : Nat} (h : ∀ i ∈ l, -1000000 ≤ i ∧ i ≤ 1000000) (hl : l.length ≤ m) : Sm 1 m (.list (l.map .int)) := by
  have z := Sm.list (n := 0) (b := 0) (m := m) (ds := l.map .int) (fun d hd => by
    obtain ⟨i, hi, rfl⟩ := List.mem_map.mp hd
    exact Sm.int (h i hi)) (by simp; omega)
  exact z.mono (Nat.le_refl _) (by omega)
theorem Sm.tups {l : List Int} {m : Nat} (h : ∀ i ∈ l, -1000000 ≤ i ∧ i ≤ 1000000) (hl : l.length ≤ m) : Sm 1 m (.tuple (l.map .int)) := by
  have z := Sm.tup (n := 0) (b := 0) (m := m) (ds := l.map .int) (fun d hd => by
    obtain ⟨i, hi, rfl⟩ := List.mem_map.mp hd
    exact Sm.int (h i hi)) (by simp; omega)
  exact z.mono (Nat.le_refl _) (by omega)
theorem sm_sky {S : Sky} (v : Valid S) : Sm 3 1000 (encS' S) := by
  have h1 := v.nl
  have h2 := v.nw
  have h3 := v.ne
  have l1 : Sm 2 199 (.list (S.looks.map encL)) := by
    refine (Sm.list (n := 1) (b := 5) (m := 16) (fun d hd => ?_) (by simp; omega)).mono (Nat.le_refl _) (by decide)
    obtain ⟨l, hl, rfl⟩ := List.mem_map.mp hd
    have k := v.lk l hl
    refine Sm.tups (l := [l.w, l.s, l.n, l.a, l.z]) (fun i hi => ?_) (by simp)
    simp only [List.mem_cons, List.not_mem_nil, or_false] at hi
    rcases hi with rfl | rfl | rfl | rfl | rfl <;> omega
  have l2 : Sm 1 6 (.list (S.worths.map .int)) := Sm.ints (fun i hi => by have := v.wr i hi; omega) h2.2
  have l3 : Sm 2 100 (.list (S.ears.map encE)) := by
    refine (Sm.list (n := 1) (b := 3) (m := 4) (fun d hd => ?_) (by simp; omega)).mono (Nat.le_refl _) (by decide)
    obtain ⟨l, hl, rfl⟩ := List.mem_map.mp hd
    have k := v.er l hl
    refine Sm.tups (l := [l.f, l.l, l.r]) (fun i hi => ?_) (by simp)
    simp only [List.mem_cons, List.not_mem_nil, or_false] at hi
    rcases hi with rfl | rfl | rfl <;> omega
  have hc := v.cp
  have ht := v.tn
  refine (Sm.tup (n := 2) (b := 199) (m := 5) (fun d hd => ?_) (by simp)).mono (Nat.le_refl _) (by decide)
  simp only [List.mem_cons, List.not_mem_nil, or_false] at hd
  rcases hd with rfl | rfl | rfl | rfl | rfl
  · exact l1
  · exact l2.mono (by decide) (by decide)
  · exact l3.mono (Nat.le_refl _) (by decide)
  · exact (Sm.int (by omega)).mono (by decide) (by decide)
  · exact (Sm.int (by omega)).mono (by decide) (by decide)
theorem sm_4 {x : Stt} (inv : Inv x) : Sm 4 10000 (encT4 x) := by
  have hb := Good.of _ inv.b.pl inv.b.has
  have hbs := hb.short inv.v
  have hps := inv.short
  have hn := inv.v.nl
  have hw := inv.v.nw
  have ht := inv.t
  refine (Sm.tup (n := 3) (b := 1000) (m := 4) (fun d hd => ?_) (by simp)).mono (Nat.le_refl _) (by decide)
  simp only [List.mem_cons, List.not_mem_nil, or_false] at hd
  rcases hd with rfl | rfl | rfl | rfl
  · exact sm_sky inv.v
  · exact (Sm.int (by omega)).mono (by decide) (by decide)
  · exact (Sm.ints (l := x.begun) (m := 1000) (fun i hi => by have := hb.has i hi; unfold Sky.has at this; omega) (by omega)).mono (by decide) (by decide)
  · exact (Sm.ints (l := x.prom) (m := 1000) (fun i hi => by have := inv.pr i hi; omega) (by omega)).mono (by decide) (by decide)
theorem rep_e {x : Stt} (inv : Inv x) : repG [encT4 x] = some (.str (encT4 x).shown) := by
  have z := sm_4 inv
  refine if_pos ?_
  unfold repOk
  have e1 : (encT4 x).shown.length ≤ sizeLine := PyData.shown_fits_bulk (B := 13) (by decide) (by decide) z.s (Nat.le_trans z.b (by decide))
  have e2 : (encT4 x).depth ≤ 8 := Nat.le_trans z.n (by decide)
  rw [z.p, z.w, z.h, decide_eq_true e1, decide_eq_true e2]
  rfl
theorem shaped_str {t : Str} (h : ∀ c ∈ t.cps.toList, c < 1114112) : SeqAt.shaped (.str t) = true := by
  unfold SeqAt.shaped
  have h1 : (PyData.str t).canLay0 = true := by
    rw [PyData.canLay0]
    unfold PyData.strOk
    rw [← Array.all_toList, List.all_eq_true]
    exact fun c hc => decide_eq_true (h c hc)
  have h2 : (PyData.str t).depth ≤ 64 := by
    rw [PyData.depth]
    exact Nat.zero_le _
  rw [h1, decide_eq_true h2]
  rfl
theorem shaped_rep {x : Stt} (inv : Inv x) : SeqAt.shaped (.str (encT4 x).shown) = true := shaped_str (sm_4 inv).a
theorem neD_rep {x : Stt} (inv : Inv x) : neD (.str (encT4 x).shown) (.str (encT4 x).shown) = some (.bool false) := by
  have h := shaped_rep inv
  obtain ⟨t, ht⟩ : ∃ t, t = (encT4 x).shown := ⟨_, rfl⟩
  rw [← ht] at h ⊢
  unfold neD
  rw [h]
  show some (PyData.bool (!(t == t))) = _
  rw [beq_self_eq_true]; rfl
end Sk
set_option Elab.async false
set_option linter.all false
set_option maxRecDepth 100000
set_option maxHeartbeats 4000000
/-! One turn of the law. -/
namespace Sk
open PySem L2 Dl
theorem eqvAll_ints : ∀ a b : List Int, PyData.eqvAll (a.map .int) (b.map .int) = decide (a = b)
  | [], [] => rfl
  | [], _ :: _ => rfl
  | _ :: _, [] => rfl
  | i :: a, j :: b => by
    show ((i == j) && PyData.eqvAll (a.map .int) (b.map .int)) = _
    rw [eqvAll_ints a b]
    by_cases h : i = j <;> by_cases g : a = b <;> simp [h, g]
theorem neD_R (a b : List Int) : neD (encR a) (encR b) = some (.bool (!decide (a = b))) := by
  unfold neD encR
  rw [shaped_ints, shaped_ints]
  show some (PyData.bool (!PyData.eqvAll (a.map .int) (b.map .int))) = _
  rw [eqvAll_ints]
theorem eqD_R (a b : List Int) : eqD (encR a) (encR b) = some (.bool (decide (a = b))) := by
  unfold eqD encR
  rw [shaped_ints, shaped_ints]
  show some (PyData.bool (PyData.eqvAll (a.map .int) (b.map .int))) = _
  rw [eqvAll_ints]
theorem shaped_RR (L : List (List Int)) : SeqAt.shaped (.list (L.map encR)) = true := by
  unfold SeqAt.shaped
  have h : ∀ L : List (List Int), PyData.canLayAll0 (L.map encR) = true := by
    intro L
    induction L with
    | nil => rfl
    | cons p L ih =>
      show ((encR p).canLay0 && PyData.canLayAll0 (L.map encR)) = true
      rw [ih, show (encR p).canLay0 = true from canLay_ints p]; rfl
  have hd : ∀ L : List (List Int), PyData.depthAll (L.map encR) ≤ 1 := by
    intro L
    induction L with
    | nil => exact Nat.zero_le _
    | cons p L ih =>
      show max (PyData.depth (encR p)) (PyData.depthAll (L.map encR)) ≤ 1
      have : PyData.depth (encR p) = 1 := by
        show PyData.depthAll (p.map .int) + 1 = 1
        rw [PySem.W.depth_ints]
      omega
  have h1 : (PyData.list (L.map encR)).canLay0 = true := h L
  have h2 : (PyData.list (L.map encR)).depth ≤ 64 := by
    have := hd L
    show PyData.depthAll (L.map encR) + 1 ≤ 64
    omega
  rw [h1, decide_eq_true h2]; rfl
theorem notInD_R (p : List Int) (L : List (List Int)) : notInD (encR p) (.list (L.map encR)) = some (.bool (!decide (p ∈ L))) := by
  unfold notInD
  dsimp only
  have e : SeqAt.shaped (encR p) = true := shaped_ints p
  rw [if_pos (by rw [e, shaped_RR]; rfl)]
  have : ∀ L : List (List Int), ((L.map encR).any fun z => PyData.eqv z (encR p)) = decide (p ∈ L) := by
    intro L
    induction L with
    | nil => simp
    | cons q L ih =>
      rw [List.map_cons, List.any_cons, ih]
      show (PyData.eqvAll (q.map .int) (p.map .int) || _) = _
      rw [eqvAll_ints]
      by_cases h : q = p
      · simp [h]
      · have h' : ¬ p = q := fun z => h z.symm
        simp [h, h']
  rw [this]
theorem fM_e {m : Str} {g : List PyData → Option Rs} {fo : Dt → Option PyData} {δ : Dt} {kvs : List (PyData × PyData)} {d : PyData} (hf : fo δ = some (tagO kvs)) (hm : noF m kvs = true) (hg : g [tagO kvs] = some (.ok d)) : fMeth m g fo δ = some d := by
  unfold fMeth
  rw [hf, Option.bind_some]
  show (if noF m kvs = true then okOf g [tagO kvs] else none) = _
  rw [if_pos hm]
  unfold okOf
  rw [hg]
theorem fP_e {g : List PyData → Option Rs} {fo : Dt → Option PyData} {δ : Dt} {kvs : List (PyData × PyData)} {d : PyData} (hf : fo δ = some (tagO kvs)) (hg : g [tagO kvs] = some (.ok d)) : fProp g fo δ = some d := by
  unfold fProp
  rw [hf, Option.bind_some]
  show okOf g [tagO kvs] = _
  unfold okOf
  rw [hg]
/-- the state that the law reads -/
def rdS : Dt → Option PyData := bA (fun l => (szOk l).map .tuple) (aCons (fMeth "sky" f_Console_sky (vr 3)) (aCons (fProp f_Console_now (vr 3)) (aCons (fMeth "begun" f_Console_begun (vr 3)) (aCons (fMeth "promises" f_Console_promises (vr 3)) aNil))))
theorem noO_4 (x : Stt) : noO (encT4 x) = true := by
  show (noO (encS' x.S) && (true && (noO (encR x.begun) && (noO (encR x.prom) && true)))) = true
  rw [noO_S, noO_R, noO_R]; rfl
section
variable {n : Nat} {x : Stt} {kvs : List (PyData × PyData)} {δ : Dt}
theorem rdS_e (h : Con n x kvs) (inv : Inv x) (v3 : vr 3 δ = some (tagO kvs)) : rdS δ = some (encT4 x) := by
  unfold rdS
  exact tup4_e (fM_e v3 (h.noF fun _ _ _ => rfl) (sky_e h inv)) (fP_e v3 (now_e h)) (fM_e v3 (h.noF fun _ _ _ => rfl) (begun_e h inv)) (fM_e v3 (h.noF fun _ _ _ => rfl) (promises_e h inv))
theorem rP (h : Con n x kvs) (inv : Inv x) (v3 : vr 3 δ = some (tagO kvs)) : fMeth "plan" f_Console_plan (vr 3) δ = some (encR x.plan) := fM_e v3 (h.noF fun _ _ _ => rfl) (plan_e h inv)
theorem rB (h : Con n x kvs) (inv : Inv x) (v3 : vr 3 δ = some (tagO kvs)) : fMeth "begun" f_Console_begun (vr 3) δ = some (encR x.begun) := fM_e v3 (h.noF fun _ _ _ => rfl) (begun_e h inv)
theorem rW (h : Con n x kvs) (inv : Inv x) (v3 : vr 3 δ = some (tagO kvs)) : fMeth "worth" f_Console_worth (vr 3) δ = some (.int (x.S.worth x.plan)) := fM_e v3 (h.noF fun _ _ _ => rfl) (worth_e h inv)
theorem rN (h : Con n x kvs) (v3 : vr 3 δ = some (tagO kvs)) : fProp f_Console_now (vr 3) δ = some (.int x.now) := fP_e v3 (now_e h)
theorem own3 {d : PyData} (hd : vr 3 δ = some d) (hk : isDict d = true) : ownI [3] δ = true := by
  show ((match (δ[3]?).join with
  | some d => isDict d
  | none => true) && true) = true
  rw [show (δ[3]?).join = some d from hd]
  show (isDict d && true) = true
  rw [hk]; rfl
theorem tCmp {g : PyData → PyData → Option PyData} {f h : Dt → Option PyData} {a b : PyData} {c : Bool} (h1 : f δ = some a) (h2 : h δ = some b) (h3 : g a b = some (.bool c)) : tB (b2 g f h) δ = some c := by
  rw [tB_e, b2_of h1 h2 h3]; rfl
theorem tOr_f {f g : Dt → Option Bool} {c : Bool} (h1 : f δ = some false) (h2 : g δ = some c) : tOrD f g δ = some c := by
  rw [tOr_e, h1, Option.bind_some]; exact h2
theorem tAnd_f {f g : Dt → Option Bool} (h1 : f δ = some false) : tAndD f g δ = some false := by
  rw [tAnd_e, h1, Option.bind_some]; rfl
theorem tAnd_t {f g : Dt → Option Bool} {c : Bool} (h1 : f δ = some true) (h2 : g δ = some c) : tAndD f g δ = some c := by
  rw [tAnd_e, h1, Option.bind_some]; exact h2
theorem if_f {c : Dt → Option Bool} {f g : Dt → Option Out} (h : c δ = some false) : stIf c f g δ = g δ := by
  rw [stIf_e, h, Option.bind_some, if_neg (by decide)]
theorem if_t {c : Dt → Option Bool} {f g : Dt → Option Out} (h : c δ = some true) : stIf c f g δ = f δ := by
  rw [stIf_e, h, Option.bind_some, if_pos rfl]
theorem sq_n {f g : Dt → Option Out} {δ' : Dt} (h : f δ = some (.nx δ')) : sq f g δ = g δ' := by
  rw [sq_e, h, Option.bind_some]
end
/-! ### what the law asks of a state -/
def askB : Dt → Option Out := (sq (stSet 13 (bA (gN 1 f_law_best) (aCons (vr 10) aNil)))
  (sq (stIf (tOrD (tB (b2 isN (vr 13) (cD .none))) (tOrD (tB (b2 notInD (fMeth "plan" f_Console_plan (vr 3)) (bA (gN 3 f_law_plans_on) (aCons (b2 ixD (vr 10) (cD (.int 0))) (aCons (b2 ixD (vr 10) (cD (.int 1))) (aCons (b2 ixD (vr 10) (cD (.int 2))) aNil)))))) (tNotD (tB (bA (gN 3 f_law_keep) (aCons (b2 ixD (vr 10) (cD (.int 0))) (aCons (fMeth "plan" f_Console_plan (vr 3)) (aCons (b2 ixD (vr 10) (cD (.int 3))) aNil))))))))
  (stRet (cD (.bool false)))
  stNx)
  (stIf (tOrD (tB (b2 neD (fMeth "worth" f_Console_worth (vr 3)) (bA (gN 2 f_law_worth) (aCons (b2 ixD (vr 10) (cD (.int 0))) (aCons (vr 13) aNil))))) (tB (b2 neD (fMeth "worth" f_Console_worth (vr 3)) (bA (gN 2 f_law_worth) (aCons (b2 ixD (vr 10) (cD (.int 0))) (aCons (fMeth "plan" f_Console_plan (vr 3)) aNil))))))
  (stRet (cD (.bool false)))
  stNx)))
theorem askB_e {n : Nat} {x : Stt} {kvs : List (PyData × PyData)} (h : Con n x kvs) (inv : Inv x) (p0 p1 p2 p4 p5 p6 p7 p8 p9 p11 p12 p13 : Option PyData) : ∃ q, askB [p0, p1, p2, some (tagO kvs), p4, p5, p6, p7, p8, p9, some (encT4 x), p11, p12, p13] = some (.nx [p0, p1, p2, some (tagO kvs), p4, p5, p6, p7, p8, p9, some (encT4 x), p11, p12, q]) := by
  obtain ⟨q, hq, hqe, hqw⟩ := law_best_e inv
  have gq := hqe.good inv.b.has
  have gqs := gq.short inv.v
  have gp := inv.best.ext.good inv.b.has
  have gps := gp.short inv.v
  have hsh := inv.short
  obtain ⟨L, l1, l2, l3⟩ := law_plans_on_e inv.v inv.b inv.bs
  have s1 : stSet 13 (bA (gN 1 f_law_best) (aCons (vr 10) aNil)) [p0, p1, p2, some (tagO kvs), p4, p5, p6, p7, p8, p9, some (encT4 x), p11, p12, p13] = some (.nx [p0, p1, p2, some (tagO kvs), p4, p5, p6, p7, p8, p9, some (encT4 x), p11, p12, some (encR q)]) := by
    have z : aCons (vr 10) aNil [p0, p1, p2, some (tagO kvs), p4, p5, p6, p7, p8, p9, some (encT4 x), p11, p12, p13] = some [encT4 x] := rfl
    rw [stSet_e, bA_e, z, Option.bind_some, gN_e (n := 1) hq rfl]
    rfl
  refine ⟨some (encR q), ?_⟩
  unfold askB
  rw [sq_n s1]
  obtain ⟨δ, hδ⟩ : ∃ δ : Dt, δ = [p0, p1, p2, some (tagO kvs), p4, p5, p6, p7, p8, p9, some (encT4 x), p11, p12, some (encR q)] := ⟨_, rfl⟩
  rw [← hδ]
  have v3 : vr 3 δ = some (tagO kvs) := by rw [hδ]; rfl
  have v10 : vr 10 δ = some (encT4 x) := by rw [hδ]; rfl
  have v13 : vr 13 δ = some (encR q) := by rw [hδ]; rfl
  have i0 : b2 ixD (vr 10) (cD (.int 0)) δ = some (encS' x.S) := b2_of v10 rfl (ixT0 _ _)
  have i1 : b2 ixD (vr 10) (cD (.int 1)) δ = some (.int x.now) := b2_of v10 rfl (ixT1 _ _ _)
  have i2 : b2 ixD (vr 10) (cD (.int 2)) δ = some (encR x.begun) := b2_of v10 rfl (ixT2 _ _ _ _)
  have i3 : b2 ixD (vr 10) (cD (.int 3)) δ = some (encR x.prom) := b2_of v10 rfl (ixT3 _ _ _ _ _)
  have rp := rP h inv v3
  have rw' := rW h inv v3
  have c1 : tB (b2 isN (vr 13) (cD .none)) δ = some false := tCmp v13 rfl rfl
  have a2 : bA (gN 3 f_law_plans_on) (aCons (b2 ixD (vr 10) (cD (.int 0))) (aCons (b2 ixD (vr 10) (cD (.int 1))) (aCons (b2 ixD (vr 10) (cD (.int 2))) aNil))) δ = some (.list (L.map encR)) := by
    have z : aCons (b2 ixD (vr 10) (cD (.int 0))) (aCons (b2 ixD (vr 10) (cD (.int 1))) (aCons (b2 ixD (vr 10) (cD (.int 2))) aNil)) δ = some [encS' x.S, .int x.now, encR x.begun] := by
      rw [aCons_e, i0, aCons_e, i1, aCons_e, i2]; rfl
    rw [bA_e, z, Option.bind_some]
    exact gN_e (n := 3) l1 rfl
  have c2 : tB (b2 notInD (fMeth "plan" f_Console_plan (vr 3)) (bA (gN 3 f_law_plans_on) (aCons (b2 ixD (vr 10) (cD (.int 0))) (aCons (b2 ixD (vr 10) (cD (.int 1))) (aCons (b2 ixD (vr 10) (cD (.int 2))) aNil))))) δ = some false := by
    rw [tCmp rp a2 (notInD_R _ _), decide_eq_true ((l2 _).mpr inv.best.ext)]; rfl
  have a3 : bA (gN 3 f_law_keep) (aCons (b2 ixD (vr 10) (cD (.int 0))) (aCons (fMeth "plan" f_Console_plan (vr 3)) (aCons (b2 ixD (vr 10) (cD (.int 3))) aNil))) δ = some (.bool true) := by
    have z : aCons (b2 ixD (vr 10) (cD (.int 0))) (aCons (fMeth "plan" f_Console_plan (vr 3)) (aCons (b2 ixD (vr 10) (cD (.int 3))) aNil)) δ = some [encS' x.S, encR x.plan, encR x.prom] := by
      rw [aCons_e, i0, aCons_e, rp, aCons_e, i3]; rfl
    rw [bA_e, z, Option.bind_some]
    rw [gN_e (n := 3) (law_keep_e gp.has (by omega) (by omega)) rfl, inv.best.keeps]
  have c3 : tNotD (tB (bA (gN 3 f_law_keep) (aCons (b2 ixD (vr 10) (cD (.int 0))) (aCons (fMeth "plan" f_Console_plan (vr 3)) (aCons (b2 ixD (vr 10) (cD (.int 3))) aNil))))) δ = some false := by
    rw [tNot_e, tB_e, a3]; rfl
  rw [ifN (tOr_f c1 (tOr_f c2 c3))]
  have w1 : bA (gN 2 f_law_worth) (aCons (b2 ixD (vr 10) (cD (.int 0))) (aCons (vr 13) aNil)) δ = some (.int (x.S.worth x.plan)) := by
    have z : aCons (b2 ixD (vr 10) (cD (.int 0))) (aCons (vr 13) aNil) δ = some [encS' x.S, encR q] := by
      rw [aCons_e, i0, aCons_e, v13]; rfl
    rw [bA_e, z, Option.bind_some]
    rw [gN_e (n := 2) (law_worth_e inv.v gq.has (by omega)) rfl, hqw]
  have w2 : bA (gN 2 f_law_worth) (aCons (b2 ixD (vr 10) (cD (.int 0))) (aCons (fMeth "plan" f_Console_plan (vr 3)) aNil)) δ = some (.int (x.S.worth x.plan)) := by
    have z : aCons (b2 ixD (vr 10) (cD (.int 0))) (aCons (fMeth "plan" f_Console_plan (vr 3)) aNil) δ = some [encS' x.S, encR x.plan] := by
      rw [aCons_e, i0, aCons_e, rp]; rfl
    rw [bA_e, z, Option.bind_some]
    rw [gN_e (n := 2) (law_worth_e inv.v gp.has (by omega)) rfl]
  have n1 : ∀ i : Int, neD (.int i) (.int i) = some (.bool false) := fun i => by rw [neD_i]; simp
  rw [if_f (tOr_f (tCmp rw' w1 (n1 _)) (tCmp rw' w2 (n1 _)))]
  rfl
end Sk
set_option Elab.async false
set_option linter.all false
set_option maxRecDepth 100000
set_option maxHeartbeats 4000000
/-! The sky whose second look fits by an ear alone. -/
namespace Sk
open PySem L2 Dl
def lostS (w : Int) : Sky := ⟨[⟨0, 0, 1, 0, 4⟩, ⟨1, 5, 1, 0, 4⟩], [5, w], [⟨2, 5, 1⟩], 6, 30⟩
theorem lostS_chk {w : Int} (h1 : 0 ≤ w) (h2 : w < 10) : Chk (lostS w) := by
  refine ⟨⟨?_, ?_, ?_, ?_, ?_, ?_, ?_, ?_, ?_⟩, ?_⟩
  · show 1 ≤ 2 ∧ 2 ≤ 6; decide
  · intro u hu
    have hu : u ∈ [5, w] := hu
    simp only [List.mem_cons, List.not_mem_nil, or_false] at hu
    omega
  · show 2 ≤ 16; decide
  · intro l hl
    have hl : l ∈ [(⟨0, 0, 1, 0, 4⟩ : Look), ⟨1, 5, 1, 0, 4⟩] := hl
    simp only [List.mem_cons, List.not_mem_nil, or_false] at hl
    have e : ((lostS w).worths.length : Int) = 2 := rfl
    rw [e]
    rcases hl with rfl | rfl <;> decide
  · show List.Pairwise (fun a b : Look => a.s ≤ b.s) [⟨0, 0, 1, 0, 4⟩, ⟨1, 5, 1, 0, 4⟩]
    simp
  · show 1 ≤ 4; decide
  · intro e he
    have he : e ∈ [(⟨2, 5, 1⟩ : Ear)] := he
    rw [List.mem_singleton.mp he]
    decide
  · show (1 : Int) ≤ 6 ∧ (6 : Int) ≤ 30; decide
  · show (1 : Int) ≤ 30 ∧ (30 : Int) ≤ 90; decide
  · exact List.pairwise_singleton _ _
theorem lost_has (w : Int) (i : Int) : (lostS w).has i ↔ i = 0 ∨ i = 1 := by
  show (0 ≤ i ∧ i < 2) ↔ _
  omega
theorem lost_ext {w : Int} {p : List Int} (hp : (lostS w).isPlan p = true) (h : ∀ i ∈ p, i = 0 ∨ i = 1) : Ext (lostS w) 0 [] p := by
  refine ⟨p, rfl, hp, fun i hi => ⟨(lost_has w i).mpr (h i hi), ?_⟩⟩
  rcases h i hi with rfl | rfl
  · show (0 : Int) ≤ 0; decide
  · show (0 : Int) ≤ 5; decide
theorem lost_p0 (w : Int) : (lostS w).isPlan [0] = true := by kernel_rfl
theorem lost_p01 (w : Int) : (lostS w).isPlan [0, 1] = true := by kernel_rfl
theorem lost_k0 (w : Int) : (lostS w).keeps [0] ([] ++ [0]) = true := by kernel_rfl
theorem lost_k01 (w : Int) : (lostS w).keeps [0, 1] ([0] ++ [1]) = true := by kernel_rfl
theorem less_p0 (w : Int) : ((lostS w).lose 0).isPlan [0] = true := by kernel_rfl
theorem less_p01 (w : Int) : ((lostS w).lose 0).isPlan [0, 1] = false := by kernel_rfl
theorem less_k0 (w : Int) : ((lostS w).lose 0).keeps [0] ([] ++ [0]) = true := by kernel_rfl
theorem two_of {r : List Int} (h : r.Pairwise (· < ·)) (hm : ∀ i ∈ r, i = 0 ∨ i = 1) (h0 : (0 : Int) ∈ r) (h1 : (1 : Int) ∈ r) : r = [0, 1] := by
  cases r with
  | nil => cases h0
  | cons a t =>
    obtain ⟨p1, p2⟩ := List.pairwise_cons.mp h
    have ha : a = 0 := by
      rcases hm a List.mem_cons_self with e | e
      · exact e
      · rcases List.mem_cons.mp h0 with z | z
        · exact z.symm
        · have := p1 0 z
          omega
    subst ha
    have h1 : (1 : Int) ∈ t := by
      rcases List.mem_cons.mp h1 with z | z
      · cases z
      · exact z
    cases t with
    | nil => cases h1
    | cons b u =>
      have hb : b = 1 := by
        have q := p1 b List.mem_cons_self
        rcases hm b (List.mem_cons_of_mem _ List.mem_cons_self) with e | e <;> omega
      subst hb
      cases u with
      | nil => rfl
      | cons c v =>
        have q := (List.pairwise_cons.mp p2).1 c List.mem_cons_self
        rcases hm c (List.mem_cons_of_mem _ (List.mem_cons_of_mem _ List.mem_cons_self)) with e | e <;> omega
theorem lost_kept (w : Int) : kept ((lostS w).lose 0) 0 [] [] [0, 1] = [0] := by
  have at0 : ((lostS w).lose 0).wish 0 = 0 := rfl
  have at1 : ((lostS w).lose 0).wish 1 = 1 := rfl
  have h1 : ∃ r, Ext ((lostS w).lose 0) 0 [] r ∧ ((lostS w).lose 0).keeps r ([] ++ [0]) = true := by
    refine ⟨[0], ⟨[0], rfl, less_p0 w, fun i hi => ?_⟩, less_k0 w⟩
    rw [List.mem_singleton.mp hi]
    exact ⟨(lost_has w 0).mpr (.inl rfl), Int.le_refl _⟩
  have h2 : ¬ ∃ r, Ext ((lostS w).lose 0) 0 [] r ∧ ((lostS w).lose 0).keeps r (([] ++ [0]) ++ [1]) = true := by
    rintro ⟨r, ⟨q, e, hp, hq⟩, hk⟩
    have e' : r = q := e
    subst e'
    have hm : ∀ i ∈ r, i = 0 ∨ i = 1 := fun i hi => (lost_has w i).mp (hq i hi).1
    unfold Sky.keeps at hk
    rw [List.all_eq_true] at hk
    have w0 : (0 : Int) ∈ r := by
      have z := of_decide_eq_true (hk 0 (by simp))
      obtain ⟨i, hi, ei⟩ := List.mem_map.mp z
      rcases hm i hi with c | c
      · rw [c] at hi; exact hi
      · rw [c, at1] at ei; cases ei
    have w1 : (1 : Int) ∈ r := by
      have z := of_decide_eq_true (hk 1 (by simp))
      obtain ⟨i, hi, ei⟩ := List.mem_map.mp z
      rcases hm i hi with c | c
      · rw [c, at0] at ei; cases ei
      · rw [c] at hi; exact hi
    have e2 := two_of (isPlan_lt r hp) hm w0 w1
    rw [e2, less_p01] at hp
    cases hp
  unfold kept
  rw [if_pos h1]
  unfold kept
  rw [if_neg h2]
  rfl
theorem sort0 : (([] ++ [0] : List Int).mergeSort fun a b => decide (a ≤ b)) = [0] := List.mergeSort_singleton _
theorem sort01 : (([0] ++ [1] : List Int).mergeSort fun a b => decide (a ≤ b)) = [0, 1] := by
  refine two_of (sort_lt (by decide)) (fun i hi => ?_) ?_ ?_
  · simpa using List.mem_mergeSort.mp hi
  · exact List.mem_mergeSort.mpr (by simp)
  · exact List.mem_mergeSort.mpr (by simp)
theorem stM1 {m : Str} {n : Nat} {g : List (PyData × PyData) → List PyData → Option Rm} {f : Dt → Option (List PyData)} {kvs kvs' : List (PyData × PyData)} {a c : Option PyData} {ds : List PyData} {d : PyData} (hm : noF m kvs = true) (hf : f [a, some (tagO kvs), c] = some ds) (hl : ds.length + 1 = n) (hg : g kvs ds = some (.ok d kvs')) : eMeth 1 m n g f [a, some (tagO kvs), c] = some (.ok d [a, some (tagO kvs'), c]) := by
  unfold eMeth
  show (if noF m kvs = true then (f [a, some (tagO kvs), c]).bind (fun ds => if ds.length + 1 = n then (g kvs ds).map _ else none) else none) = _
  rw [if_pos hm, hf, Option.bind_some, if_pos hl, hg]
  rfl
theorem lost_e (w : Int) (h1 : 0 ≤ w) (h2 : w < 10) : f_law_lost [.int w] = some (.ok (.bool true)) := by
  obtain ⟨kvs, p, e0, con, inv⟩ := init_e (lostS_chk h1 h2)
  have c0 := promise_e con (by decide) inv 0
  rcases c0 with ⟨no, _⟩ | ⟨kvs1, d1, p1, e1, con1, inv1, _⟩
  · exact absurd ⟨⟨Int.le_refl _, by show (0 : Int) < 2; decide⟩, (by simp), [0], lost_ext (lost_p0 w) (by simp), lost_k0 w⟩ no
  have es : ((([] : List Int) ++ [0]).mergeSort fun a b => decide (a ≤ b)) = [0] := sort0
  dsimp only at con1 inv1
  rw [es] at con1 inv1
  have c1 := promise_e con1 (by decide) inv1 1
  rcases c1 with ⟨no, _⟩ | ⟨kvs2, d2, p2, e2, con2, inv2, _⟩
  · exact absurd ⟨⟨by decide, by show (1 : Int) < 2; decide⟩, (by simp), [0, 1], lost_ext (lost_p01 w) (by simp), lost_k01 w⟩ no
  dsimp only at con2 inv2
  rw [sort01] at con2 inv2
  have c2 := lose_e con2 (by decide) inv2 0
  rcases c2 with ⟨no, _⟩ | ⟨kvs3, p3, e3, con3, inv3, _⟩
  · exact absurd ⟨⟨Int.le_refl _, by show 0 < 1; decide⟩, by show (0 : Int) ≤ 2; decide⟩ no
  dsimp only at e3 con3 inv3
  have ek : kept ((lostS w).lose (0 : Int).toNat) 0 [] [] [0, 1] = [0] := lost_kept w
  rw [ek] at e3 con3 inv3
  have et : ([0, 1] : List Int).filter (fun u => !decide (u ∈ [(0 : Int)])) = [1] := by decide
  rw [et] at e3
  have tup : (bA (fun l => (szOk l).map .tuple) (aCons (asL (bA (fun l => (szOk l).map .list) (aCons (bA (fun l => (szOk l).map .tuple) (aCons (cD (.int 0)) (aCons (cD (.int 0)) (aCons (cD (.int 1)) (aCons (cD (.int 0)) (aCons (cD (.int 4)) aNil)))))) (aCons (bA (fun l => (szOk l).map .tuple) (aCons (cD (.int 1)) (aCons (cD (.int 5)) (aCons (cD (.int 1)) (aCons (cD (.int 0)) (aCons (cD (.int 4)) aNil)))))) aNil)))) (aCons (asL (bA (fun l => (szOk l).map .list) (aCons (cD (.int 5)) (aCons (vr 0) aNil)))) (aCons (asL (bA (fun l => (szOk l).map .list) (aCons (bA (fun l => (szOk l).map .tuple) (aCons (cD (.int 2)) (aCons (cD (.int 5)) (aCons (cD (.int 1)) aNil)))) aNil))) (aCons (cD (.int 6)) (aCons (cD (.int 30)) aNil)))))) [some (.int w), none, none] = some (encS' (lostS w)) := by
    simp [asL, encS', lostS, encL, encE]
  have s1 : ∀ {f : Dt → Option PyData}, f [some (.int w), none, none] = some (encS' (lostS w)) → stSet 1 (bA (mkO 2 f_Console___init__) (aCons f aNil)) [some (.int w), none, none] = some (.nx [some (.int w), some (tagO kvs), none]) := by
    intro f hf
    have z : aCons f aNil [some (.int w), none, none] = some [encS' (lostS w)] := by
      rw [aCons_e, hf]; rfl
    have z2 : mkO 2 f_Console___init__ [encS' (lostS w)] = some (tagO kvs) := by
      unfold mkO
      rw [if_pos (show [encS' (lostS w)].length + 1 = 2 from rfl), e0]
    rw [stSet_e, bA_e, z, Option.bind_some, z2]; rfl
  have q1 : lp_law_lost_1 [some (.int w), some (tagO kvs), some (.int 0)] = some (.nx [some (.int w), some (tagO kvs1), some (.int 0)]) := by
    unfold lp_law_lost_1 stE
    rw [stM1 (n := 2) (a := some (.int w)) (c := some (.int 0)) (con.noF fun _ _ _ => rfl) (show aCons (vr 2) aNil [some (.int w), some (tagO kvs), some (.int 0)] = some [.int 0] from rfl) rfl e1]
    rfl
  have q2 : lp_law_lost_1 [some (.int w), some (tagO kvs1), some (.int 1)] = some (.nx [some (.int w), some (tagO kvs2), some (.int 1)]) := by
    unfold lp_law_lost_1 stE
    rw [stM1 (n := 2) (a := some (.int w)) (c := some (.int 1)) (con1.noF fun _ _ _ => rfl) (show aCons (vr 2) aNil [some (.int w), some (tagO kvs1), some (.int 1)] = some [.int 1] from rfl) rfl e2]
    rfl
  have loop : forL (setD 2) lp_law_lost_1 [.int 0, .int 1] [some (.int w), some (tagO kvs), none] = some (.nx [some (.int w), some (tagO kvs2), some (.int 1)]) := by
    unfold forL
    rw [setD_e, Option.bind_some]
    show (lp_law_lost_1 [some (.int w), some (tagO kvs), some (.int 0)]).bind _ = _
    rw [q1, Option.bind_some]
    show forL _ _ _ _ = _
    unfold forL
    rw [setD_e, Option.bind_some]
    show (lp_law_lost_1 [some (.int w), some (tagO kvs1), some (.int 1)]).bind _ = _
    rw [q2, Option.bind_some]
    rfl
  have r2 : rng1 (aCons (cD (.int 2)) aNil) [some (.int w), some (tagO kvs), none] = some [.int 0, .int 1] := by
    rw [rng1_e (j := 2) (by decide) rfl]
    rfl
  have t1 := stM1 (m := "lose") (n := 2) (a := some (.int w)) (c := some (.int 1)) (con2.noF fun _ _ _ => rfl) (rfl : aCons (cD (.int 0)) aNil [some (.int w), some (tagO kvs2), some (.int 1)] = some [.int 0]) rfl e3
  have l1 : ∀ δ : Dt, asL (bA (fun l => (szOk l).map .list) (aCons (cD (.int 1)) aNil)) δ = some (encR [1]) := fun δ => asL_e _ _ (by simp)
  have l0 : ∀ δ : Dt, asL (bA (fun l => (szOk l).map .list) (aCons (cD (.int 0)) aNil)) δ = some (encR [0]) := fun δ => asL_e _ _ (by simp)
  have t2 : eCmp eqD (eMeth 1 "lose" 2 f_Console_lose (aCons (cD (.int 0)) aNil)) (asL (bA (fun l => (szOk l).map .list) (aCons (cD (.int 1)) aNil))) [some (.int w), some (tagO kvs2), some (.int 1)] = some (.ok (.bool true) [some (.int w), some (tagO kvs3), some (.int 1)]) := by
    unfold eCmp
    rw [t1, Option.bind_some]
    show ((asL (bA (fun l => (szOk l).map .list) (aCons (cD (.int 1)) aNil)) _).bind _) = _
    rw [l1, Option.bind_some, eqD_R]
    rfl
  have t3 : gOwn [1] (b2 eqD (fMeth "promises" f_Console_promises (vr 1)) (asL (bA (fun l => (szOk l).map .list) (aCons (cD (.int 0)) aNil)))) [some (.int w), some (tagO kvs3), some (.int 1)] = some (.bool true) := by
    refine gOwn_of ?_ rfl rfl
    have hp : fMeth "promises" f_Console_promises (vr 1) [some (.int w), some (tagO kvs3), some (.int 1)] = some (encR [0]) := fM_e rfl (con3.noF fun _ _ _ => rfl) (promises_e con3 inv3)
    rw [b2_of hp (l0 _) (eqD_R _ _)]
    rfl
  unfold f_law_lost h_law_lost runP
  show (sq _ _ [some (.int w), none, none]).bind outRs = _
  rw [sq_n (s1 tup), sq_e, stFor_e, r2, Option.bind_some, loop, Option.bind_some]
  show (stRetE _ _).bind outRs = _
  unfold stRetE eAnd
  rw [t2, Option.bind_some]
  show ((((gOwn [1] _ _).map _).map _)).bind outRs = _
  rw [t3]
  rfl
end Sk
set_option Elab.async false
set_option linter.all false
set_option maxRecDepth 100000
set_option maxHeartbeats 4000000
/-! The law holds of the mirrors. -/
namespace Sk
open PySem L2 Dl
/-- what the law asks behind a deed -/
def askD : Dt → Option Out := (stIf (tB (b1 (isTy tbTup) (vr 9)))
  (stIf (tOrD (tB (b2 neD (bA repG (aCons (vr 10) aNil)) (bA repG (aCons (vr 5) aNil)))) (tB (b2 neD (fMeth "plan" f_Console_plan (vr 3)) (vr 6))))
  (stRet (cD (.bool false)))
  stNx)
  (stIf (tB (b2 eqD (b2 ixD (vr 8) (cD (.int 0))) (cD (.str "go"))))
  (stIf (tOrD (tB (b2 neD (fMeth "plan" f_Console_plan (vr 3)) (vr 6))) (tOrD (tB (b2 neD (fMeth "begun" f_Console_begun (vr 3)) (asL (slD (vr 6) (tPt none) (tPt (some (bA lenD (aCons (b2 ixD (vr 10) (cD (.int 2))) aNil)))))))) (tB (b2 neD (fProp f_Console_now (vr 3)) (b2 ixD (vr 8) (cD (.int 1)))))))
  (stRet (cD (.bool false)))
  stNx)
  (stIf (tAndD (tB (b2 inD (b2 ixD (vr 8) (cD (.int 0))) (asL (bA (fun l => (szOk l).map .list) (aCons (cD (.str "wish")) (aCons (cD (.str "release")) aNil)))))) (tB (b2 ltI (fMeth "worth" f_Console_worth (vr 3)) (vr 7))))
  (stRet (cD (.bool false)))
  (stIf (tAndD (tB (b2 eqD (b2 ixD (vr 8) (cD (.int 0))) (cD (.str "promise")))) (tOrD (tB (b2 gtI (fMeth "worth" f_Console_worth (vr 3)) (vr 7))) (tB (b2 notInD (b2 ixD (vr 8) (cD (.int 1))) (b2 ixD (vr 10) (cD (.int 3)))))))
  (stRet (cD (.bool false)))
  (stIf (tAndD (tB (b2 eqD (b2 ixD (vr 8) (cD (.int 0))) (cD (.str "lose")))) (tAndD (tB (b2 eqD (vr 9) (asL (bA (fun l => (szOk l).map .list) aNil)))) (tB (b2 gtI (fMeth "worth" f_Console_worth (vr 3)) (vr 7)))))
  (stRet (cD (.bool false)))
  stNx)))))
def askL : Dt → Option Out := (stIf (tOrD (tAndD (tB (b2 gtI (bA lenD (aCons (vr 11) aNil)) (cD (.int 0)))) (tB (b2 notInD (b2 ixD (vr 8) (cD (.int 0))) (asL (bA (fun l => (szOk l).map .list) (aCons (cD (.str "release")) (aCons (cD (.str "lose")) aNil))))))) (tAndD (tB (b2 eqD (b2 ixD (vr 8) (cD (.int 0))) (cD (.str "lose")))) (tAndD (tNotD (tB (b1 (isTy tbTup) (vr 9)))) (tB (b2 neD (vr 9) (vr 11))))))
  (stRet (cD (.bool false)))
  stNx)
theorem lp_eq : lp_law_1 = (sq (stSet 5 (gOwn [3] rdS))
  (sq (stPar 6 7 (aCons (gOwn [3] (fMeth "plan" f_Console_plan (vr 3))) (aCons (gOwn [3] (fMeth "worth" f_Console_worth (vr 3))) aNil)))
  (sq (stSet 8 (bA (gN 2 f_law_deed) (aCons (vr 5) (aCons (asL (slD (vr 1) (tPt (some (b2 addI (cD (.int 51)) (b2 mulI (cD (.int 7)) (vr 4))))) (tPt (some (b2 addI (cD (.int 58)) (b2 mulI (cD (.int 7)) (vr 4))))))) aNil))))
  (sq (stSetE 9 (eMeth 3 "" 2 f_law_do (aCons (vr 8) aNil)))
  (sq (stSet 10 (gOwn [3] rdS))
  (sq askD
  (sq (stSet 11 (asL cp_law_1))
  (sq askL
  askB)))))))) := rfl
theorem in2_e {δ : Dt} {f : Dt → Option PyData} {d : Deed} {a b : Str} {c : Bool} (hf : f δ = some (encD d)) (h : inD (.str (tag d)) (.list [.str a, .str b]) = some (.bool c)) : tB (b2 inD (b2 ixD f (cD (.int 0))) (asL (bA (fun l => (szOk l).map .list) (aCons (cD (.str a)) (aCons (cD (.str b)) aNil))))) δ = some c := by
  have h1 : b2 ixD f (cD (.int 0)) δ = some (.str (tag d)) := b2_of hf rfl (encD_0 d)
  have h2 : asL (bA (fun l => (szOk l).map .list) (aCons (cD (.str a)) (aCons (cD (.str b)) aNil))) δ = some (.list [.str a, .str b]) := asL_e _ _ (by
    show (szOk [PyData.str a, .str b]).map PyData.list = _
    rw [szOk_2]; rfl)
  exact tCmp h1 h2 h
theorem nin2_e {δ : Dt} {f : Dt → Option PyData} {d : Deed} {a b : Str} {c : Bool} (hf : f δ = some (encD d)) (h : notInD (.str (tag d)) (.list [.str a, .str b]) = some (.bool c)) : tB (b2 notInD (b2 ixD f (cD (.int 0))) (asL (bA (fun l => (szOk l).map .list) (aCons (cD (.str a)) (aCons (cD (.str b)) aNil))))) δ = some c := by
  have h1 : b2 ixD f (cD (.int 0)) δ = some (.str (tag d)) := b2_of hf rfl (encD_0 d)
  have h2 : asL (bA (fun l => (szOk l).map .list) (aCons (cD (.str a)) (aCons (cD (.str b)) aNil))) δ = some (.list [.str a, .str b]) := asL_e _ _ (by
    show (szOk [PyData.str a, .str b]).map PyData.list = _
    rw [szOk_2]; rfl)
  exact tCmp h1 h2 h
section
variable {n m : Nat} {x y : Stt} {kvs : List (PyData × PyData)} {δ : Dt} {told : PyData} {d : Deed}
theorem askD_raised (h : Con n x kvs) (inv : Inv x) {nm : Str} (v3 : vr 3 δ = some (tagO kvs)) (v5 : vr 5 δ = some (encT4 x)) (v6 : vr 6 δ = some (encR x.plan)) (v9 : vr 9 δ = some (.tuple [.str "raised", .str nm])) (v10 : vr 10 δ = some (encT4 x)) : askD δ = some (.nx δ) := by
  unfold askD
  have t9 : tB (b1 (isTy tbTup) (vr 9)) δ = some true := by
    rw [tB_e, b1_e, v9]; rfl
  have r10 : bA repG (aCons (vr 10) aNil) δ = some (.str (encT4 x).shown) := by
    rw [bA_e, aCons_e, v10]
    exact rep_e inv
  have r5 : bA repG (aCons (vr 5) aNil) δ = some (.str (encT4 x).shown) := by
    rw [bA_e, aCons_e, v5]
    exact rep_e inv
  have np : neD (encR x.plan) (encR x.plan) = some (.bool false) := by rw [neD_R]; simp
  rw [if_t t9, if_f (tOr_f (tCmp r10 r5 (neD_rep inv)) (tCmp (rP h inv v3) v6 np))]
  rfl
theorem cut_0 {l : List PyData} {e : Nat} (h : e ≤ l.length) : cutD l none (some (e : Int)) = l.take e := cut_to h
/-- what has begun begins the plan -/
theorem begun_pre (inv : Inv x) : x.plan.take x.begun.length = x.begun ∧ x.begun.length ≤ x.plan.length := by
  obtain ⟨q, e, _⟩ := inv.best.ext
  rw [e, List.take_left, List.length_append]
  exact ⟨rfl, by omega⟩
theorem askD_done (h : Con m y kvs) (inv' : Inv y) (inv : Inv x) (v3 : vr 3 δ = some (tagO kvs)) (v6 : vr 6 δ = some (encR x.plan)) (v7 : vr 7 δ = some (.int (x.S.worth x.plan))) (v8 : vr 8 δ = some (encD d)) (v9 : vr 9 δ = some told) (v10 : vr 10 δ = some (encT4 y)) (hd : Done x y told d) : askD δ = some (.nx δ) := by
  have rw' := rW h inv' v3
  have i0 : b2 ixD (vr 8) (cD (.int 0)) δ = some (.str (tag d)) := b2_of v8 rfl (encD_0 d)
  have t9 : tB (b1 (isTy tbTup) (vr 9)) δ = some false := by
    rw [tB_e, b1_e, v9]
    cases d with
    | go t => obtain ⟨_, fresh, rfl⟩ := hd; rfl
    | wish w rs => obtain ⟨⟨i, rfl⟩, _⟩ := hd; rfl
    | promise w => obtain ⟨⟨i, rfl⟩, _⟩ := hd; rfl
    | release w => obtain ⟨⟨i, rfl⟩, _⟩ := hd; rfl
    | lose e => obtain ⟨rfl, _⟩ := hd; rfl
  unfold askD
  rw [if_f t9]
  cases d with
  | go t =>
    obtain ⟨rfl, fresh, rfl⟩ := hd
    have c1 := tag_eq (.go t) "go" (b := true) (by kernel_rfl) v8
    rw [if_t c1]
    have np : neD (encR x.plan) (encR x.plan) = some (.bool false) := by rw [neD_R]; simp
    have a1 : tB (b2 neD (fMeth "plan" f_Console_plan (vr 3)) (vr 6)) δ = some false := tCmp (rP h inv' v3) v6 np
    obtain ⟨b1, b2'⟩ := begun_pre inv'
    have sl : asL (slD (vr 6) (tPt none) (tPt (some (bA lenD (aCons (b2 ixD (vr 10) (cD (.int 2))) aNil))))) δ = some (encR (x.go t).begun) := by
      refine asL_e _ _ ?_
      unfold slD
      rw [v6, Option.bind_some]
      have l1 : bA lenD (aCons (b2 ixD (vr 10) (cD (.int 2))) aNil) δ = some (.int (x.go t).begun.length) := len_P _ (b2_of v10 rfl (ixT2 _ _ _ _))
      have l2 : tPt (some (bA lenD (aCons (b2 ixD (vr 10) (cD (.int 2))) aNil))) δ = some (some ((x.go t).begun.length : Int)) := by
        unfold tPt
        dsimp only
        rw [l1]; rfl
      rw [l2]
      show some (PyData.list (cutD (x.plan.map .int) none (some ((x.go t).begun.length : Int)))) = _
      rw [cut_0 (by rw [List.length_map]; exact b2'), ← List.map_take]
      show some (PyData.list (((x.go t).plan.take (x.go t).begun.length).map .int)) = _
      rw [b1]
    have nb : neD (encR (x.go t).begun) (encR (x.go t).begun) = some (.bool false) := by rw [neD_R]; simp
    have nt : neD (.int t) (.int t) = some (.bool false) := by rw [neD_i]; simp
    have a2 : tB (b2 neD (fMeth "begun" f_Console_begun (vr 3)) (asL (slD (vr 6) (tPt none) (tPt (some (bA lenD (aCons (b2 ixD (vr 10) (cD (.int 2))) aNil))))))) δ = some false := tCmp (rB h inv' v3) sl nb
    have a3 : tB (b2 neD (fProp f_Console_now (vr 3)) (b2 ixD (vr 8) (cD (.int 1)))) δ = some false := tCmp (rN h v3) (b2_of v8 rfl (ixT1 _ _ _)) nt
    rw [if_f (tOr_f a1 (tOr_f a2 a3))]
    rfl
  | wish w rs =>
    obtain ⟨_, _, le⟩ := hd
    have c1 := tag_eq (.wish w rs) "go" (b := false) (by kernel_rfl) v8
    have c2 := tag_eq (.wish w rs) "promise" (b := false) (by kernel_rfl) v8
    have c3 := tag_eq (.wish w rs) "lose" (b := false) (by kernel_rfl) v8
    have c4 : tB (b2 inD (b2 ixD (vr 8) (cD (.int 0))) (asL (bA (fun l => (szOk l).map .list) (aCons (cD (.str "wish")) (aCons (cD (.str "release")) aNil))))) δ = some true := in2_e v8 (by kernel_rfl)
    have c5 : tB (b2 ltI (fMeth "worth" f_Console_worth (vr 3)) (vr 7)) δ = some false := by
      rw [tCmp rw' v7 (ltI_e _ _), decide_eq_false (by omega)]
    rw [if_f c1, if_f (tAnd_t c4 c5), if_f (tAnd_f c2), if_f (tAnd_f c3)]
    rfl
  | promise w =>
    obtain ⟨_, hm, le⟩ := hd
    have c1 := tag_eq (.promise w) "go" (b := false) (by kernel_rfl) v8
    have c2 := tag_eq (.promise w) "promise" (b := true) (by kernel_rfl) v8
    have c3 := tag_eq (.promise w) "lose" (b := false) (by kernel_rfl) v8
    have c4 : tB (b2 inD (b2 ixD (vr 8) (cD (.int 0))) (asL (bA (fun l => (szOk l).map .list) (aCons (cD (.str "wish")) (aCons (cD (.str "release")) aNil))))) δ = some false := in2_e v8 (by kernel_rfl)
    have c5 : tB (b2 gtI (fMeth "worth" f_Console_worth (vr 3)) (vr 7)) δ = some false := by
      rw [tCmp rw' v7 (gtI_e _ _), decide_eq_false (by omega)]
    have c6 : tB (b2 notInD (b2 ixD (vr 8) (cD (.int 1))) (b2 ixD (vr 10) (cD (.int 3)))) δ = some false := by
      rw [tCmp (b2_of v8 rfl (ixT1 _ _ _)) (b2_of v10 rfl (ixT3 _ _ _ _ _)) (notInD_ints w y.prom), decide_eq_true ((hm w).mpr (.inr rfl))]; rfl
    rw [if_f c1, if_f (tAnd_f c4), if_f (tAnd_t c2 (tOr_f c5 c6)), if_f (tAnd_f c3)]
    rfl
  | release w =>
    obtain ⟨_, le⟩ := hd
    have c1 := tag_eq (.release w) "go" (b := false) (by kernel_rfl) v8
    have c2 := tag_eq (.release w) "promise" (b := false) (by kernel_rfl) v8
    have c3 := tag_eq (.release w) "lose" (b := false) (by kernel_rfl) v8
    have c4 : tB (b2 inD (b2 ixD (vr 8) (cD (.int 0))) (asL (bA (fun l => (szOk l).map .list) (aCons (cD (.str "wish")) (aCons (cD (.str "release")) aNil))))) δ = some true := in2_e v8 (by kernel_rfl)
    have c5 : tB (b2 ltI (fMeth "worth" f_Console_worth (vr 3)) (vr 7)) δ = some false := by
      rw [tCmp rw' v7 (ltI_e _ _), decide_eq_false (by omega)]
    rw [if_f c1, if_f (tAnd_t c4 c5), if_f (tAnd_f c2), if_f (tAnd_f c3)]
    rfl
  | lose e =>
    obtain ⟨rfl, le⟩ := hd
    have c1 := tag_eq (.lose e) "go" (b := false) (by kernel_rfl) v8
    have c2 := tag_eq (.lose e) "promise" (b := false) (by kernel_rfl) v8
    have c3 := tag_eq (.lose e) "lose" (b := true) (by kernel_rfl) v8
    have c4 : tB (b2 inD (b2 ixD (vr 8) (cD (.int 0))) (asL (bA (fun l => (szOk l).map .list) (aCons (cD (.str "wish")) (aCons (cD (.str "release")) aNil))))) δ = some false := in2_e v8 (by kernel_rfl)
    have c5 : tB (b2 eqD (vr 9) (asL (bA (fun l => (szOk l).map .list) aNil))) δ = some (decide ((x.prom.filter fun w => !decide (w ∈ y.prom)) = [])) := tCmp v9 (lst0_e δ) (eqD_R _ [])
    have c6 : tB (b2 gtI (fMeth "worth" f_Console_worth (vr 3)) (vr 7)) δ = some (decide (x.S.worth x.plan < y.S.worth y.plan)) := tCmp rw' v7 (gtI_e _ _)
    have c7 : tAndD (tB (b2 eqD (vr 9) (asL (bA (fun l => (szOk l).map .list) aNil)))) (tB (b2 gtI (fMeth "worth" f_Console_worth (vr 3)) (vr 7))) δ = some false := by
      by_cases c : (x.prom.filter fun w => !decide (w ∈ y.prom)) = []
      · rw [decide_eq_true c] at c5
        have hk : ∀ w ∈ x.prom, w ∈ y.prom := fun w hw => by
          have := List.filter_eq_nil_iff.mp c w hw
          simpa using this
        have := le hk
        rw [tAnd_t c5 c6, decide_eq_false (by omega)]
      · rw [decide_eq_false c] at c5
        exact tAnd_f c5
    rw [if_f c1, if_f (tAnd_f c4), if_f (tAnd_f c2), if_f (tAnd_t c3 c7)]
    rfl
/-- the promises that are gone -/
def gone (x y : Stt) : List Int := x.prom.filter fun w => !decide (w ∈ y.prom)
theorem s11_e (inv : Inv x) (p0 p1 p2 p3 p4 p6 p7 p8 p9 p11 p12 p13 : Option PyData) : stSet 11 (asL cp_law_1) [p0, p1, p2, p3, p4, some (encT4 x), p6, p7, p8, p9, some (encT4 y), p11, p12, p13] = some (.nx [p0, p1, p2, p3, p4, some (encT4 x), p6, p7, p8, p9, some (encT4 y), some (encR (gone x y)), p12, p13]) := by
  have hs := inv.short
  have a1 : cp_law_1 [p0, p1, p2, p3, p4, some (encT4 x), p6, p7, p8, p9, some (encT4 y), p11, p12, p13] = some (.list ((gone x y).map .int)) := by
    unfold cp_law_1 gone
    refine lcD_e (ds := x.prom.map .int) ?_ (by simp; omega) ?_
    · rw [listI_e, b2_of (x := encT4 x) (y := .int 3) rfl rfl (ixT3 _ _ _ _ _)]; rfl
    refine lc_map (f := PyData.int) _ _ x.prom fun w hw => ⟨[p0, p1, p2, p3, p4, some (encT4 x), p6, p7, p8, p9, some (encT4 y), p11, some (.int w), p13], by simp [wipeD], ?_, fun _ => rfl⟩
    exact tCmp (a := .int w) (b := encR y.prom) rfl (b2_of (x := encT4 y) (y := .int 3) rfl rfl (ixT3 _ _ _ _ _)) (notInD_ints w y.prom)
  rw [stSet_e, asL_e _ _ a1]
  rfl
theorem askL_e (v8 : vr 8 δ = some (encD d)) (v9 : vr 9 δ = some told) (v11 : vr 11 δ = some (encR (gone x y))) (hd : (∃ nm, told = .tuple [.str "raised", .str nm]) ∧ y = x ∨ Done x y told d) : askL δ = some (.nx δ) := by
  unfold askL
  have gl : tB (b2 gtI (bA lenD (aCons (vr 11) aNil)) (cD (.int 0))) δ = some (decide (0 < ((gone x y).length : Int))) := tGt (len_P _ v11)
  have g0 : (∀ w ∈ x.prom, w ∈ y.prom) → gone x y = [] := fun h => by
    unfold gone
    rw [List.filter_eq_nil_iff]
    intro w hw
    simp [h w hw]
  have isT : (∃ nm, told = .tuple [.str "raised", .str nm]) → tB (b1 (isTy tbTup) (vr 9)) δ = some true := fun ⟨nm, e⟩ => by
    rw [tB_e, b1_e, v9, e]; rfl
  cases d with
  | lose e =>
    have c1 : tB (b2 notInD (b2 ixD (vr 8) (cD (.int 0))) (asL (bA (fun l => (szOk l).map .list) (aCons (cD (.str "release")) (aCons (cD (.str "lose")) aNil))))) δ = some false := nin2_e v8 (by kernel_rfl)
    have c2 := tag_eq (.lose e) "lose" (b := true) (by kernel_rfl) v8
    have f1 : tAndD (tB (b2 gtI (bA lenD (aCons (vr 11) aNil)) (cD (.int 0)))) (tB (b2 notInD (b2 ixD (vr 8) (cD (.int 0))) (asL (bA (fun l => (szOk l).map .list) (aCons (cD (.str "release")) (aCons (cD (.str "lose")) aNil)))))) δ = some false := by
      by_cases c : 0 < ((gone x y).length : Int)
      · rw [decide_eq_true c] at gl
        exact tAnd_t gl c1
      · rw [decide_eq_false c] at gl
        exact tAnd_f gl
    have f2 : tAndD (tNotD (tB (b1 (isTy tbTup) (vr 9)))) (tB (b2 neD (vr 9) (vr 11))) δ = some false := by
      rcases hd with ⟨hr, rfl⟩ | ⟨rfl, _⟩
      · refine tAnd_f ?_
        rw [tNot_e, isT hr]; rfl
      · have z : tNotD (tB (b1 (isTy tbTup) (vr 9))) δ = some true := by
          rw [tNot_e, tB_e, b1_e, v9]; rfl
        refine tAnd_t z (tCmp v9 v11 ?_)
        show neD (encR (gone x y)) (encR (gone x y)) = _
        rw [neD_R]; simp
    rw [if_f (tOr_f f1 (tAnd_t c2 f2))]
    rfl
  | release e =>
    have c1 : tB (b2 notInD (b2 ixD (vr 8) (cD (.int 0))) (asL (bA (fun l => (szOk l).map .list) (aCons (cD (.str "release")) (aCons (cD (.str "lose")) aNil))))) δ = some false := nin2_e v8 (by kernel_rfl)
    have c2 := tag_eq (.release e) "lose" (b := false) (by kernel_rfl) v8
    have f1 : tAndD (tB (b2 gtI (bA lenD (aCons (vr 11) aNil)) (cD (.int 0)))) (tB (b2 notInD (b2 ixD (vr 8) (cD (.int 0))) (asL (bA (fun l => (szOk l).map .list) (aCons (cD (.str "release")) (aCons (cD (.str "lose")) aNil)))))) δ = some false := by
      by_cases c : 0 < ((gone x y).length : Int)
      · rw [decide_eq_true c] at gl
        exact tAnd_t gl c1
      · rw [decide_eq_false c] at gl
        exact tAnd_f gl
    rw [if_f (tOr_f f1 (tAnd_f c2))]
    rfl
  | go t =>
    have hg : gone x y = [] := g0 (by rcases hd with ⟨_, rfl⟩ | ⟨rfl, _⟩ <;> exact fun w hw => hw)
    rw [hg] at gl
    rw [if_f (tOr_f (tAnd_f gl) (tAnd_f (tag_eq (.go t) "lose" (b := false) (by kernel_rfl) v8)))]
    rfl
  | wish w rs =>
    have hg : gone x y = [] := g0 (by
      rcases hd with ⟨_, rfl⟩ | ⟨_, e, _⟩
      · exact fun w hw => hw
      · rw [e]; exact fun w hw => hw)
    rw [hg] at gl
    rw [if_f (tOr_f (tAnd_f gl) (tAnd_f (tag_eq (.wish w rs) "lose" (b := false) (by kernel_rfl) v8)))]
    rfl
  | promise w =>
    have hg : gone x y = [] := g0 (by
      rcases hd with ⟨_, rfl⟩ | ⟨_, e, _⟩
      · exact fun w hw => hw
      · exact fun u hu => (e u).mpr (.inl hu))
    rw [hg] at gl
    rw [if_f (tOr_f (tAnd_f gl) (tAnd_f (tag_eq (.promise w) "lose" (b := false) (by kernel_rfl) v8)))]
    rfl
end
theorem turn_e {n : Nat} {x : Stt} {kvs : List (PyData × PyData)} {ds : List Int} {k : Nat} (h : Con n x kvs) (hn : n ≤ 1000) (inv : Inv x) (hd : ds.length = 115) (hk : k < 9) (p0 p2 p5 p6 p7 p8 p9 p10 p11 p12 p13 : Option PyData) : ∃ (y : Stt) (m : Nat) (kvs' : List (PyData × PyData)) (q5 q6 q7 q8 q9 q10 q11 q12 q13 : Option PyData), lp_law_1 [p0, some (.list (ds.map .int)), p2, some (tagO kvs), some (.int k), p5, p6, p7, p8, p9, p10, p11, p12, p13] = some (.nx [p0, some (.list (ds.map .int)), p2, some (tagO kvs'), some (.int k), q5, q6, q7, q8, q9, q10, q11, q12, q13]) ∧ Con m y kvs' ∧ m ≤ n + 1 ∧ Inv y := by
  have s5 : stSet 5 (gOwn [3] rdS) [p0, some (.list (ds.map .int)), p2, some (tagO kvs), some (.int k), p5, p6, p7, p8, p9, p10, p11, p12, p13] = some (.nx [p0, some (.list (ds.map .int)), p2, some (tagO kvs), some (.int k), some (encT4 x), p6, p7, p8, p9, p10, p11, p12, p13]) := by
    rw [stSet_e, gOwn_of (rdS_e h inv rfl) (noO_4 x) (own3 (d := tagO kvs) rfl rfl)]; rfl
  have s6 : stPar 6 7 (aCons (gOwn [3] (fMeth "plan" f_Console_plan (vr 3))) (aCons (gOwn [3] (fMeth "worth" f_Console_worth (vr 3))) aNil)) [p0, some (.list (ds.map .int)), p2, some (tagO kvs), some (.int k), some (encT4 x), p6, p7, p8, p9, p10, p11, p12, p13] = some (.nx [p0, some (.list (ds.map .int)), p2, some (tagO kvs), some (.int k), some (encT4 x), some (encR x.plan), some (.int (x.S.worth x.plan)), p8, p9, p10, p11, p12, p13]) := by
    unfold stPar
    rw [aCons_e, gOwn_of (rP h inv rfl) (noO_R _) (own3 (d := tagO kvs) rfl rfl), aCons_e, gOwn_of (rW h inv rfl) rfl (own3 (d := tagO kvs) rfl rfl)]
    rfl
  obtain ⟨c, hc⟩ : ∃ c, c = (ds.drop (51 + 7 * k)).take 7 := ⟨_, rfl⟩
  have hcl : c.length = 7 := by rw [hc, List.length_take, List.length_drop]; omega
  obtain ⟨d, hde, dok⟩ := law_deed_e inv hcl
  have s8 : stSet 8 (bA (gN 2 f_law_deed) (aCons (vr 5) (aCons (asL (slD (vr 1) (tPt (some (b2 addI (cD (.int 51)) (b2 mulI (cD (.int 7)) (vr 4))))) (tPt (some (b2 addI (cD (.int 58)) (b2 mulI (cD (.int 7)) (vr 4))))))) aNil))) [p0, some (.list (ds.map .int)), p2, some (tagO kvs), some (.int k), some (encT4 x), some (encR x.plan), some (.int (x.S.worth x.plan)), p8, p9, p10, p11, p12, p13] = some (.nx [p0, some (.list (ds.map .int)), p2, some (tagO kvs), some (.int k), some (encT4 x), some (encR x.plan), some (.int (x.S.worth x.plan)), some (encD d), p9, p10, p11, p12, p13]) := by
    have sl : asL (slD (vr 1) (tPt (some (b2 addI (cD (.int 51)) (b2 mulI (cD (.int 7)) (vr 4))))) (tPt (some (b2 addI (cD (.int 58)) (b2 mulI (cD (.int 7)) (vr 4)))))) [p0, some (.list (ds.map .int)), p2, some (tagO kvs), some (.int k), some (encT4 x), some (encR x.plan), some (.int (x.S.worth x.plan)), p8, p9, p10, p11, p12, p13] = some (.list (c.map .int)) := by
      refine asL_e _ _ ?_
      have t1 : ∀ a : Nat, tPt (some (b2 addI (cD (.int a)) (b2 mulI (cD (.int 7)) (vr 4)))) [p0, some (.list (ds.map .int)), p2, some (tagO kvs), some (.int k), some (encT4 x), some (encR x.plan), some (.int (x.S.worth x.plan)), p8, p9, p10, p11, p12, p13] = some (some ((a + 7 * k : Nat) : Int)) := fun a => by
        unfold tPt
        dsimp only
        rw [add_mul (k := k) rfl (by decide)]
        show some (some ((a : Int) + 7 * (k : Int))) = _
        congr 2
      have t1a := t1 51
      have t1b := t1 58
      unfold slD
      show ((some (PyData.list (ds.map .int))).bind _) = _
      rw [Option.bind_some]
      rw [show ((51 : Nat) : Int) = 51 from rfl] at t1a
      rw [show ((58 : Nat) : Int) = 58 from rfl] at t1b
      rw [t1a, t1b]
      show some (PyData.list (cutD (ds.map .int) (some ((51 + 7 * k : Nat) : Int)) (some ((58 + 7 * k : Nat) : Int)))) = _
      unfold cutD
      rw [HT.sIx_nat, HT.sIx_nat, List.length_map, Nat.min_eq_left (by omega), Nat.min_eq_left (by omega), ← List.map_drop, ← List.map_take, show 58 + 7 * k - (51 + 7 * k) = 7 from by omega, ← hc]
    have z : aCons (vr 5) (aCons (asL (slD (vr 1) (tPt (some (b2 addI (cD (.int 51)) (b2 mulI (cD (.int 7)) (vr 4))))) (tPt (some (b2 addI (cD (.int 58)) (b2 mulI (cD (.int 7)) (vr 4))))))) aNil) [p0, some (.list (ds.map .int)), p2, some (tagO kvs), some (.int k), some (encT4 x), some (encR x.plan), some (.int (x.S.worth x.plan)), p8, p9, p10, p11, p12, p13] = some [encT4 x, .list (c.map .int)] := by
      rw [aCons_e, aCons_e, sl]; rfl
    rw [stSet_e, bA_e, z, Option.bind_some, gN_e (n := 2) hde rfl]
    rfl
  rw [lp_eq, sq_n s5, sq_n s6, sq_n s8]
  have nf : noF "" kvs = true := h.noF fun _ _ _ => rfl
  have s9 : ∀ {told : PyData} {kvs' : List (PyData × PyData)}, f_law_do kvs [encD d] = some (.ok told kvs') → stSetE 9 (eMeth 3 "" 2 f_law_do (aCons (vr 8) aNil)) [p0, some (.list (ds.map .int)), p2, some (tagO kvs), some (.int k), some (encT4 x), some (encR x.plan), some (.int (x.S.worth x.plan)), some (encD d), p9, p10, p11, p12, p13] = some (.nx [p0, some (.list (ds.map .int)), p2, some (tagO kvs'), some (.int k), some (encT4 x), some (encR x.plan), some (.int (x.S.worth x.plan)), some (encD d), some told, p10, p11, p12, p13]) := by
    intro told kvs' e
    unfold stSetE eMeth
    show (if noF "" kvs = true then (some [encD d]).bind (fun ds => if ds.length + 1 = 2 then (f_law_do kvs ds).map _ else none) else none).map _ = _
    rw [if_pos nf, Option.bind_some, if_pos (show [encD d].length + 1 = 2 from rfl), e]
    rfl
  rcases law_do_e h hn inv d dok with ⟨nm, e⟩ | ⟨kvs', told, y, e, h', inv', done⟩
  · refine ⟨x, n, kvs, ?_⟩
    rw [sq_n (s9 e)]
    have s10 : stSet 10 (gOwn [3] rdS) [p0, some (.list (ds.map .int)), p2, some (tagO kvs), some (.int k), some (encT4 x), some (encR x.plan), some (.int (x.S.worth x.plan)), some (encD d), some (.tuple [.str "raised", .str nm]), p10, p11, p12, p13] = some (.nx [p0, some (.list (ds.map .int)), p2, some (tagO kvs), some (.int k), some (encT4 x), some (encR x.plan), some (.int (x.S.worth x.plan)), some (encD d), some (.tuple [.str "raised", .str nm]), some (encT4 x), p11, p12, p13]) := by
      rw [stSet_e, gOwn_of (rdS_e h inv rfl) (noO_4 x) (own3 (d := tagO kvs) rfl rfl)]; rfl
    rw [sq_n s10, sq_n (askD_raised h inv rfl rfl rfl rfl rfl), sq_n (s11_e (y := x) inv _ _ _ _ _ _ _ _ _ _ _ _), sq_n (askL_e (x := x) (y := x) rfl rfl rfl (.inl ⟨⟨nm, rfl⟩, rfl⟩))]
    obtain ⟨q, hq⟩ := askB_e h inv p0 (some (.list (ds.map .int))) p2 (some (.int k)) (some (encT4 x)) (some (encR x.plan)) (some (.int (x.S.worth x.plan))) (some (encD d)) (some (.tuple [.str "raised", .str nm])) (some (encR (gone x x))) p12 p13
    exact ⟨_, _, _, _, _, _, _, _, _, hq, h, by omega, inv⟩
  · refine ⟨y, n + 1, kvs', ?_⟩
    rw [sq_n (s9 e)]
    have s10 : stSet 10 (gOwn [3] rdS) [p0, some (.list (ds.map .int)), p2, some (tagO kvs'), some (.int k), some (encT4 x), some (encR x.plan), some (.int (x.S.worth x.plan)), some (encD d), some told, p10, p11, p12, p13] = some (.nx [p0, some (.list (ds.map .int)), p2, some (tagO kvs'), some (.int k), some (encT4 x), some (encR x.plan), some (.int (x.S.worth x.plan)), some (encD d), some told, some (encT4 y), p11, p12, p13]) := by
      rw [stSet_e, gOwn_of (rdS_e h' inv' rfl) (noO_4 y) (own3 (d := tagO kvs') rfl rfl)]; rfl
    rw [sq_n s10, sq_n (askD_done h' inv' inv rfl rfl rfl rfl rfl rfl done), sq_n (s11_e (y := y) inv _ _ _ _ _ _ _ _ _ _ _ _), sq_n (askL_e (x := x) (y := y) rfl rfl rfl (.inr done))]
    obtain ⟨q, hq⟩ := askB_e h' inv' p0 (some (.list (ds.map .int))) p2 (some (.int k)) (some (encT4 x)) (some (encR x.plan)) (some (.int (x.S.worth x.plan))) (some (encD d)) (some told) (some (encR (gone x y))) p12 p13
    exact ⟨_, _, _, _, _, _, _, _, _, hq, h', by omega, inv'⟩
theorem turns_e {ds : List Int} (hd : ds.length = 115) (p0 p2 : Option PyData) : ∀ (ks : List Int) (n : Nat) (x : Stt) (kvs : List (PyData × PyData)) (p4 p5 p6 p7 p8 p9 p10 p11 p12 p13 : Option PyData), (∀ k ∈ ks, 0 ≤ k ∧ k < 9) → n + ks.length ≤ 1000 → Con n x kvs → Inv x → ∃ δ, forL (setD 4) lp_law_1 (ks.map .int) [p0, some (.list (ds.map .int)), p2, some (tagO kvs), p4, p5, p6, p7, p8, p9, p10, p11, p12, p13] = some (.nx δ) := by
  intro ks
  induction ks with
  | nil => intros; exact ⟨_, rfl⟩
  | cons k ks ih =>
    intro n x kvs p4 p5 p6 p7 p8 p9 p10 p11 p12 p13 hk hl h inv
    rw [List.length_cons] at hl
    have hk0 := hk k List.mem_cons_self
    obtain ⟨j, rfl⟩ : ∃ j : Nat, k = j := ⟨k.toNat, by omega⟩
    obtain ⟨y, m, kvs', q5, q6, q7, q8, q9, q10, q11, q12, q13, e, h', hm, inv'⟩ := turn_e h (by omega) inv hd (k := j) (by omega) p0 p2 p5 p6 p7 p8 p9 p10 p11 p12 p13
    obtain ⟨δ, hδ⟩ := ih m y kvs' (some (.int j)) q5 q6 q7 q8 q9 q10 q11 q12 q13 (fun i hi => hk i (List.mem_cons_of_mem _ hi)) (by omega) h' inv'
    refine ⟨δ, ?_⟩
    rw [List.map_cons]
    unfold forL
    rw [setD_e, Option.bind_some]
    show (lp_law_1 [p0, some (.list (ds.map .int)), p2, some (tagO kvs), some (.int j), p5, p6, p7, p8, p9, p10, p11, p12, p13]).bind _ = _
    rw [e, Option.bind_some]
    exact hδ
theorem law_holds (ns : List Int) (hn : ns.length ≤ 1000) : ∃ δ, hS_law ns [none, none, none, none, none, none, none, none, none, none, none, none, none, none] = some (.rt (.bool true) δ) := by
  obtain ⟨ds, e1, hd, hr⟩ := law_draws_e ns hn
  obtain ⟨S, e2, chk⟩ := law_sky_e hd
  obtain ⟨kvs, p, e3, con, inv⟩ := init_e chk
  have m0 := mod_rng (dr ds 114) (m := 10) (by decide)
  have m1 := mod_rng (dr ds 50) (m := 9) (by decide)
  obtain ⟨δ, hδ⟩ := turns_e hd none (some (encS' S)) (rng 0 (dr ds 50 % 9)) 0 _ kvs none none none none none none none none none none (fun k hk => by have := mem_rng.mp hk; omega) (by rw [rng_len]; omega) con inv
  refine ⟨δ, ?_⟩
  unfold hS_law
  have s1 : stSet 1 (fun _ => okOf (fun _ => gS_draws ns 115) []) [none, none, none, none, none, none, none, none, none, none, none, none, none, none] = some (.nx [none, some (.list (ds.map .int)), none, none, none, none, none, none, none, none, none, none, none, none]) := by
    have z : okOf (fun _ => gS_draws ns 115) [] = some (.list (ds.map .int)) := by
      unfold okOf
      rw [e1]
    rw [stSet_e, z]; rfl
  have s2 : stSet 2 (bA (gN 2 f_law_sky) (aCons (vr 1) (aCons (cD (.int 4)) aNil))) [none, some (.list (ds.map .int)), none, none, none, none, none, none, none, none, none, none, none, none] = some (.nx [none, some (.list (ds.map .int)), some (encS' S), none, none, none, none, none, none, none, none, none, none, none]) := by
    have z : aCons (vr 1) (aCons (cD (.int 4)) aNil) [none, some (.list (ds.map .int)), none, none, none, none, none, none, none, none, none, none, none, none] = some [.list (ds.map .int), .int 4] := rfl
    rw [stSet_e, bA_e, z, Option.bind_some, gN_e (n := 2) e2 rfl]; rfl
  have s3 : stSet 3 (bA (mkO 2 f_Console___init__) (aCons (vr 2) aNil)) [none, some (.list (ds.map .int)), some (encS' S), none, none, none, none, none, none, none, none, none, none, none] = some (.nx [none, some (.list (ds.map .int)), some (encS' S), some (tagO kvs), none, none, none, none, none, none, none, none, none, none]) := by
    have z : aCons (vr 2) aNil [none, some (.list (ds.map .int)), some (encS' S), none, none, none, none, none, none, none, none, none, none, none] = some [encS' S] := rfl
    have z2 : mkO 2 f_Console___init__ [encS' S] = some (tagO kvs) := by
      unfold mkO
      rw [if_pos (show [encS' S].length + 1 = 2 from rfl), e3]
    rw [stSet_e, bA_e, z, Option.bind_some, z2]; rfl
  rw [sq_n s1]
  unfold hr_law
  rw [sq_n s2, sq_n s3]
  have c1 : tNotD (tB (bA (gN 1 f_law_lost) (aCons (b2 modI (bA toI (aCons (b2 ixD (vr 1) (cD (.int 114))) aNil)) (cD (.int 10))) aNil))) [none, some (.list (ds.map .int)), some (encS' S), some (tagO kvs), none, none, none, none, none, none, none, none, none, none] = some false := by
    have z : aCons (b2 modI (bA toI (aCons (b2 ixD (vr 1) (cD (.int 114))) aNil)) (cD (.int 10))) aNil [none, some (.list (ds.map .int)), some (encS' S), some (tagO kvs), none, none, none, none, none, none, none, none, none, none] = some [.int (dr ds 114 % 10)] := by
      rw [aCons_e, mod_dr (ds := ds) (i := 114) rfl rfl (by omega) rfl (by decide)]; rfl
    rw [tNot_e, tB_e, bA_e, z, Option.bind_some, gN_e (n := 1) (lost_e _ m0.1 m0.2) rfl]; rfl
  rw [ifN c1]
  have r5 : rng1 (aCons (b2 modI (bA toI (aCons (b2 ixD (vr 1) (cD (.int 50))) aNil)) (cD (.int 9))) aNil) [none, some (.list (ds.map .int)), some (encS' S), some (tagO kvs), none, none, none, none, none, none, none, none, none, none] = some ((rng 0 (dr ds 50 % 9)).map .int) := by
    refine rng1_e (by omega) ?_
    rw [aCons_e, mod_dr (ds := ds) (i := 50) rfl rfl (by omega) rfl (by decide)]
    rfl
  rw [sq_e, stFor_e, r5, Option.bind_some, hδ]
  rfl
end Sk
set_option Elab.async false
set_option linter.all false
set_option maxRecDepth 100000
set_option maxHeartbeats 4000000
/-! What is known behind the head. Printed by hd.py. -/
namespace Sk
open PySem PySem.Spec PyProof.Rows L2 Dl PySem.SkyX He
def fdIn (K : PySem.W.Frag) (f : Addr) : FuncData := match K.lookup f with
  | some ⟨_, _, .func d, _⟩ => d
  | _ => default
theorem FunD_fd {K : PySem.W.Frag} {x qual : Str} {params : Arguments} {body : List Stmt} {scope : Scope} {dvs : List V} {kws : List (Str × V)} {f : Addr} (h : ∃ fd, FunD K x qual params body scope dvs kws f fd) : FunD K x qual params body scope dvs kws f (fdIn K f) := by
  obtain ⟨fd, F⟩ := h
  obtain ⟨oc, od, dV, kV, doc, pm, an, cdv, ct, osl, e, lk, r⟩ := F.ex
  have z : fdIn K f = fd := by
    unfold fdIn
    rw [lk]
  rw [z]
  exact F
def addrs (K : PySem.W.Frag) : Nat → Addr
  | 0 => A_is_within K
  | 1 => A_check_look K
  | 2 => A_check_ear K
  | 3 => A_check_sky K
  | 4 => A_end_of K
  | 5 => A_turning K
  | 6 => A_loss K
  | 7 => A_emptied K
  | 8 => A_follows K
  | 9 => A_stored_at K
  | 10 => A_level_behind K
  | 11 => A_wrong_in K
  | 12 => A_is_plan K
  | 13 => A_worth_of K
  | 14 => A_plans_on K
  | 15 => A_keeps K
  | 16 => A_keeping K
  | 17 => A_can_keep K
  | 18 => A_best_keeping K
  | 19 => A_parts_of K
  | 20 => A_clash_of K
  | 21 => A_with_late K
  | 22 => A_copied K
  | 23 => A_State___init__ K
  | 24 => A_Console___init__ K
  | 25 => A_Console__state K
  | 26 => A_Console__enter K
  | 27 => A_Console_go K
  | 28 => A_Console_wish K
  | 29 => A_Console__check_wish K
  | 30 => A_Console_promise K
  | 31 => A_Console_release K
  | 32 => A_Console_lose K
  | 33 => A_Console_sky K
  | 34 => A_Console_begun K
  | 35 => A_Console_promises K
  | 36 => A_Console_plan K
  | 37 => A_Console_worth K
  | 38 => A_Console_now K
  | 39 => A_law_draws K
  | 40 => A_law_sky K
  | 41 => A_law_turn K
  | 42 => A_law_worth K
  | 43 => A_law_loss K
  | 44 => A_law_level K
  | 45 => A_law_plans_on K
  | 46 => A_law_keep K
  | 47 => A_law_best K
  | 48 => A_law_deed K
  | 49 => A_law_class K
  | 50 => A_law_do K
  | 51 => A_law_lost K
  | 52 => A_law K
  | _ => 0
def fdF (K : PySem.W.Frag) (n : Nat) : FuncData := fdIn K (addrs K n)
def clF (K : PySem.W.Frag) : Cl := { S := ga K "State", O := ga K "Console", ec := ecF K, er := none, T := [((cT K ("parts_of", none)).2, ("parts_of" ++ ".<locals>." : Str) ++ "<lambda>"), ((cT K ("with_late", none)).2, ("with_late" ++ ".<locals>." : Str) ++ "<lambda>")] }
section
variable {K : PySem.W.Frag}
theorem exc_hd {C : Addr} (q : excB K C = true) : ∃ nm qn N bs bm sn sub ab col dd k0 k1 k2 k3 k5, K.lookup C = some (excClassObj nm qn C N bs bm true sn sub ab col dd k0 k1 k2 k3 k5 "ValueError.__new__") ∧ HandSPX.refsVE bm = true := by
  unfold excB at q
  split at q
  · rename_i t dd cd sl hk
    obtain ⟨q1, q2⟩ := Bool.and_eq_true_iff.mp q
    split at q2
    · rename_i D bm k0 k1 k2 k3 n k5 hm hs
      obtain ⟨q3, q4⟩ := Bool.and_eq_true_iff.mp q2
      obtain ⟨q5, q6⟩ := Bool.and_eq_true_iff.mp q4
      obtain ⟨q7, q8⟩ := Bool.and_eq_true_iff.mp q6
      obtain ⟨q9, q10⟩ := Bool.and_eq_true_iff.mp q8
      obtain ⟨l⟩ := sl
      obtain ⟨c1, c2, c3, c4, c5, c6, c7, c8, c9, c10, c11⟩ := cd
      dsimp only at hm hs q7 q9
      have e1 := of_decide_eq_true q1
      have e2 := of_decide_eq_true q3
      have e3 := of_decide_eq_true q5
      have e4 : c11 = false := by simpa using q7
      subst hm hs e1 e2 e3 e4 q9
      exact ⟨_, _, _, _, _, _, _, _, _, _, _, _, _, _, _, hk, q10⟩
    · cases q2
  · cases q
theorem cell_hd {C f : Addr} {name qual : Str} {st : Stmt} (e : inO K f = inW name qual st) (q : cellB K C f qual = true) : ∃ (oc : Value) (od : Option Addr) (kV doc pm : Value) (an : Option Addr) (cda : Addr) (ct : Value) (osl : Array (Option Value)) (cc : Addr),
    K.lookup f = some ⟨oc, od, .func (PySem.W.ksFn name qual (defArgs st) (defBody st) (defScope st) .none kV doc pm an (.ref cda) ct cc), osl⟩ ∧ PySem.W.codeIn K (.ref cda) qual = true ∧
    (∃ cl cld csl, K.lookup cc = some ⟨cl, cld, .cell (some (.ref C)), csl⟩) ∧ ∃ ccl cdd vs ccs file tf, K.lookup cda = some ⟨ccl, cdd, .fields vs, ccs⟩ ∧ vs[2]? = some (.str file tf) ∧ ((Pg.main.file : Str) == file) = true := by
  unfold cellB at q
  split at q
  · rename_i oc od d osl hk
    unfold inO inW at e
    rw [hk] at e
    obtain ⟨n1, n2, n3, n4, n5, n6, n7, n8, n9, n10, n11, n12, n13, n14, n15⟩ := d
    have e2 : (some (n1, n2, n3, n4, n5, n6, n8, n15) : InV) = some (name, qual, defArgs st, .stmts (defBody st), defScope st, mainGlobals, .none, builtinsNs) := e
    simp only [Option.some.injEq, Prod.mk.injEq] at e2
    obtain ⟨h1, h2, h3, h4, h5, h6, h7, h8⟩ := e2
    subst h1 h2 h3 h4 h5 h6 h7 h8
    dsimp only at q
    obtain ⟨q1, q2⟩ := Bool.and_eq_true_iff.mp q
    obtain ⟨q3, q4⟩ := Bool.and_eq_true_iff.mp q2
    split at q1
    · rename_i x cc
      obtain ⟨q5, q6⟩ := Bool.and_eq_true_iff.mp q1
      obtain rfl := of_decide_eq_true q5
      split at q6
      · rename_i cl cld D csl hcc
        obtain rfl := of_decide_eq_true q6
        split at q4
        · rename_i cda
          split at q4
          · rename_i ccl cdd vs ccs hcd
            split at q4
            · rename_i file tf hv
              exact ⟨oc, od, n9, n10, n11, n12, cda, n14, osl, cc, hk, q3, ⟨cl, cld, csl, hcc⟩, ccl, cdd, vs, ccs, file, tf, hcd, hv, q4⟩
            · cases q4
          · cases q4
        · cases q4
      · cases q6
    · cases q1
  · cases q
theorem sky_hd {x : Str} {st : Stmt} (e : inO K (ma K (ga K x) "__init__") = inW "__init__" (x ++ ".__init__") st) (q : skyB K x = true) : SkyC Pg K (ga K x) (ma K (ga K x) "__init__") (x ++ ".__init__") (defArgs st) (defBody st) (defScope st) := by
  unfold skyB at q
  obtain ⟨q1, q⟩ := Bool.and_eq_true_iff.mp q
  obtain ⟨q2, q⟩ := Bool.and_eq_true_iff.mp q
  obtain ⟨q3, q⟩ := Bool.and_eq_true_iff.mp q
  obtain ⟨q4, q⟩ := Bool.and_eq_true_iff.mp q
  obtain ⟨q5, q⟩ := Bool.and_eq_true_iff.mp q
  obtain ⟨q6, q⟩ := Bool.and_eq_true_iff.mp q
  obtain ⟨q7, q⟩ := Bool.and_eq_true_iff.mp q
  obtain ⟨q8, q⟩ := Bool.and_eq_true_iff.mp q
  obtain ⟨q9, q⟩ := Bool.and_eq_true_iff.mp q
  obtain ⟨q10, q11⟩ := Bool.and_eq_true_iff.mp q
  exact ⟨exc_hd q1, eqO_ok q2, eqO_ok q3, of_decide_eq_true q4, q5, of_decide_eq_true q6, of_decide_eq_true q7, of_decide_eq_true q8, of_decide_eq_true q9, eqO_ok q10, cell_hd e q11⟩
theorem isa_hd {x : Str} (q : isaB K x = true) : ExcC K (ga K x) := by
  unfold isaB at q
  obtain ⟨q1, q⟩ := Bool.and_eq_true_iff.mp q
  obtain ⟨q2, q⟩ := Bool.and_eq_true_iff.mp q
  obtain ⟨q3, q⟩ := Bool.and_eq_true_iff.mp q
  obtain ⟨q4, q⟩ := Bool.and_eq_true_iff.mp q
  obtain ⟨q5, q⟩ := Bool.and_eq_true_iff.mp q
  obtain ⟨q6, q⟩ := Bool.and_eq_true_iff.mp q
  obtain ⟨q7, q8⟩ := Bool.and_eq_true_iff.mp q
  exact ⟨eqO_ok q1, eqO_ok q2, of_decide_eq_true q3, q4, eqO_ok q5, eqO_ok q6, of_decide_eq_true q7, of_decide_eq_true q8⟩
theorem now_hd {name qual : Str} {st : Stmt} {f : Addr} (e : inO K f = inW name qual st) (q : plainB K f qual = true) : ∃ fd, FunD K name qual (defArgs st) (defBody st) (defScope st) [] [] f fd := by
  unfold plainB at q
  obtain ⟨q1, q2⟩ := Bool.and_eq_true_iff.mp q
  split at q2
  · rename_i oc od d osl hk
    unfold inO inW at e
    rw [hk] at e
    obtain ⟨n1, n2, n3, n4, n5, n6, n7, n8, n9, n10, n11, n12, n13, n14, n15⟩ := d
    have e2 : (some (n1, n2, n3, n4, n5, n6, n8, n15) : InV) = some (name, qual, defArgs st, .stmts (defBody st), defScope st, mainGlobals, .none, builtinsNs) := e
    simp only [Option.some.injEq, Prod.mk.injEq] at e2
    obtain ⟨h1, h2, h3, h4, h5, h6, h7, h8⟩ := e2
    subst h1 h2 h3 h4 h5 h6 h7 h8
    dsimp only at q2
    obtain ⟨q3, q4⟩ := Bool.and_eq_true_iff.mp q2
    have e3 : n7 = [] := List.isEmpty_iff.mp q4
    subst e3
    exact ⟨_, ⟨oc, od, .none, n9, n10, n11, n12, n13, n14, osl, rfl, hk, q3, .inl ⟨rfl, rfl⟩, .inl rfl⟩, q1⟩
  · cases q2
theorem kit_hd {x : Str} {b : Bool} (q : kitB K x b = true) : ∀ c, c < 7 → PySem.W.kitOne K (.ref (ecF K c)) (.ref (ga K x)) = some b := fun c hc => of_decide_eq_true (List.all_eq_true.mp q c (List.mem_range.mpr hc))
theorem hy_of {w : World} {h : Heap} {mg : Str → Option Value} {base : Heap} (X : K.In h) (G : h.Ns mainGlobals mg) (c : SaysX hdFa hdFn [] hdTf moreB w h K) (ci : inS K = inSW) (t1 : LamX.TabB base mg (cT K ("parts_of", none)).1 (cT K ("parts_of", none)).2) (t2 : LamX.TabB base mg (cT K ("with_late", none)).1 (cT K ("with_late", none)).2) : Hy K mg base (fdF K) (clF K) := by
  have d := c.t.d
  have m := c.more
  unfold moreB at m
  obtain ⟨m1, m⟩ := Bool.and_eq_true_iff.mp m
  obtain ⟨m2, m⟩ := Bool.and_eq_true_iff.mp m
  obtain ⟨m3, m⟩ := Bool.and_eq_true_iff.mp m
  obtain ⟨m4, m⟩ := Bool.and_eq_true_iff.mp m
  obtain ⟨m5, m⟩ := Bool.and_eq_true_iff.mp m
  obtain ⟨m6, m⟩ := Bool.and_eq_true_iff.mp m
  obtain ⟨m7, m⟩ := Bool.and_eq_true_iff.mp m
  obtain ⟨m8, m⟩ := Bool.and_eq_true_iff.mp m
  obtain ⟨m9, m⟩ := Bool.and_eq_true_iff.mp m
  obtain ⟨m10, m⟩ := Bool.and_eq_true_iff.mp m
  obtain ⟨m11, m⟩ := Bool.and_eq_true_iff.mp m
  obtain ⟨m12, m⟩ := Bool.and_eq_true_iff.mp m
  obtain ⟨m13, m⟩ := Bool.and_eq_true_iff.mp m
  obtain ⟨m14, m⟩ := Bool.and_eq_true_iff.mp m
  obtain ⟨m15, m⟩ := Bool.and_eq_true_iff.mp m
  obtain ⟨m16, m17⟩ := Bool.and_eq_true_iff.mp m
  have sb : ∀ x ∈ errN, skyB K x = true := fun x hx => List.all_eq_true.mp m1 x hx
  have ib : ∀ x ∈ errN, isaB K x = true := fun x hx => List.all_eq_true.mp m2 x hx
  have kit : ∀ c d, c < 7 → d < 7 → PySem.W.kitOne K (.ref (ecF K c)) (.ref (ecF K d)) = some (c == d) := fun c d hc hd => of_decide_eq_true (List.all_eq_true.mp (List.all_eq_true.mp m3 c (List.mem_range.mpr hc)) d (List.mem_range.mpr hd))
  have iv : ∀ (i : Nat) {a b : InV}, (inS K)[i]? = some a → inSW[i]? = some b → a = b := fun i a b h1 h2 => by
    rw [ci, h2] at h1
    exact (Option.some.inj h1).symm
  have gl : ∀ (i : Nat) {x : Str}, hdFa[i]? = some (.glo x) → mg x = some (.ref (ga K x)) := fun i x e => glo_ok X G (d.fact i e)
  have fr : ∀ (i : Nat) {x : Str}, hdFa[i]? = some (.free x) → mg x = none := fun i x e => free_ok X G (d.fact i e)
  exact {
    F_is_within := FunD_fd (d.def_ 0 rfl)
    m_is_within := gl 0 rfl
    F_check_look := FunD_fd (d.def_ 1 rfl)
    m_check_look := gl 1 rfl
    F_check_ear := FunD_fd (d.def_ 2 rfl)
    m_check_ear := gl 2 rfl
    F_check_sky := FunD_fd (d.def_ 3 rfl)
    m_check_sky := gl 3 rfl
    F_end_of := FunD_fd (d.def_ 4 rfl)
    m_end_of := gl 4 rfl
    F_turning := FunD_fd (d.def_ 5 rfl)
    m_turning := gl 5 rfl
    F_loss := FunD_fd (d.def_ 6 rfl)
    m_loss := gl 6 rfl
    F_emptied := FunD_fd (d.def_ 7 rfl)
    m_emptied := gl 7 rfl
    F_follows := FunD_fd (d.def_ 8 rfl)
    m_follows := gl 8 rfl
    F_stored_at := FunD_fd (d.def_ 9 rfl)
    m_stored_at := gl 9 rfl
    F_level_behind := FunD_fd (d.def_ 10 rfl)
    m_level_behind := gl 10 rfl
    F_wrong_in := FunD_fd (d.def_ 11 rfl)
    m_wrong_in := gl 11 rfl
    F_is_plan := FunD_fd (d.def_ 12 rfl)
    m_is_plan := gl 12 rfl
    F_worth_of := FunD_fd (d.def_ 13 rfl)
    m_worth_of := gl 13 rfl
    F_plans_on := FunD_fd (d.def_ 14 rfl)
    m_plans_on := gl 14 rfl
    F_keeps := FunD_fd (d.def_ 15 rfl)
    m_keeps := gl 15 rfl
    F_keeping := FunD_fd (d.def_ 16 rfl)
    m_keeping := gl 16 rfl
    F_can_keep := FunD_fd (d.def_ 17 rfl)
    m_can_keep := gl 17 rfl
    F_best_keeping := FunD_fd (d.def_ 18 rfl)
    m_best_keeping := gl 18 rfl
    F_parts_of := FunD_fd (d.def_ 19 rfl)
    m_parts_of := gl 19 rfl
    F_clash_of := FunD_fd (d.def_ 20 rfl)
    m_clash_of := gl 20 rfl
    F_with_late := FunD_fd (d.def_ 21 rfl)
    m_with_late := gl 21 rfl
    F_copied := FunD_fd (d.def_ 22 rfl)
    m_copied := gl 22 rfl
    F_State___init__ := FunD_fd (d.def_ 23 rfl)
    F_Console___init__ := FunD_fd (d.def_ 24 rfl)
    F_Console__state := FunD_fd (d.def_ 25 rfl)
    F_Console__enter := FunD_fd (d.def_ 26 rfl)
    F_Console_go := FunD_fd (d.def_ 27 rfl)
    F_Console_wish := FunD_fd (d.def_ 28 rfl)
    F_Console__check_wish := FunD_fd (d.def_ 29 rfl)
    F_Console_promise := FunD_fd (d.def_ 30 rfl)
    F_Console_release := FunD_fd (d.def_ 31 rfl)
    F_Console_lose := FunD_fd (d.def_ 32 rfl)
    F_Console_sky := FunD_fd (d.def_ 33 rfl)
    F_Console_begun := FunD_fd (d.def_ 34 rfl)
    F_Console_promises := FunD_fd (d.def_ 35 rfl)
    F_Console_plan := FunD_fd (d.def_ 36 rfl)
    F_Console_worth := FunD_fd (d.def_ 37 rfl)
    F_Console_now := FunD_fd (now_hd (iv 0 rfl rfl) m17)
    F_law_draws := FunD_fd (d.def_ 38 rfl)
    m_law_draws := gl 23 rfl
    F_law_sky := FunD_fd (d.def_ 39 rfl)
    m_law_sky := gl 24 rfl
    F_law_turn := FunD_fd (d.def_ 40 rfl)
    m_law_turn := gl 25 rfl
    F_law_worth := FunD_fd (d.def_ 41 rfl)
    m_law_worth := gl 26 rfl
    F_law_loss := FunD_fd (d.def_ 42 rfl)
    m_law_loss := gl 27 rfl
    F_law_level := FunD_fd (d.def_ 43 rfl)
    m_law_level := gl 28 rfl
    F_law_plans_on := FunD_fd (d.def_ 44 rfl)
    m_law_plans_on := gl 29 rfl
    F_law_keep := FunD_fd (d.def_ 45 rfl)
    m_law_keep := gl 30 rfl
    F_law_best := FunD_fd (d.def_ 46 rfl)
    m_law_best := gl 31 rfl
    F_law_deed := FunD_fd (d.def_ 47 rfl)
    m_law_deed := gl 32 rfl
    F_law_class := FunD_fd (d.def_ 48 rfl)
    m_law_class := gl 33 rfl
    F_law_do := FunD_fd (d.def_ 49 rfl)
    m_law_do := gl 34 rfl
    F_law_lost := FunD_fd (d.def_ 50 rfl)
    m_law_lost := gl 35 rfl
    F_law := FunD_fd (d.def_ 51 rfl)
    m_law := gl 36 rfl
    b_abs := fr 37 rfl
    b_all := fr 38 rfl
    b_any := fr 39 rfl
    b_bool := fr 40 rfl
    b_enumerate := fr 41 rfl
    b_int := fr 42 rfl
    b_isinstance := fr 43 rfl
    b_len := fr 44 rfl
    b_list := fr 45 rfl
    b_max := fr 46 rfl
    b_min := fr 47 rfl
    b_range := fr 48 rfl
    b_repr := fr 49 rfl
    b_sorted := fr 50 rfl
    b_sum := fr 51 rfl
    b_tuple := fr 52 rfl
    m_super := fr 53 rfl
    c_MOST_LOOKS := int_ok X G (d.fact 54 rfl)
    c_MOST_WISHES := int_ok X G (d.fact 55 rfl)
    c_MOST_EARS := int_ok X G (d.fact 56 rfl)
    c_LAST := int_ok X G (d.fact 57 rfl)
    SO := fun e => by
      have e' : ga K "State" = ga K "Console" := e
      rw [decide_eq_true e'] at m12
      cases m12
    cS := cls_ok (d.fact 59 rfl)
    cO := cls_ok (d.fact 62 rfl)
    m_State := gl 58 rfl
    m_Console := gl 61 rfl
    mkS := mkr_ok (d.fact 60 rfl)
    mkO := mkr_ok (d.fact 63 rfl)
    nS_sky := noat_ok (d.fact 64 rfl)
    nS_time := noat_ok (d.fact 65 rfl)
    nS_begun := noat_ok (d.fact 66 rfl)
    nS_promises := noat_ok (d.fact 67 rfl)
    nS_worth := noat_ok (d.fact 68 rfl)
    nS_plan := noat_ok (d.fact 69 rfl)
    nO_states := noat_ok (d.fact 70 rfl)
    nO_at := noat_ok (d.fact 71 rfl)
    nO_entries := noat_ok (d.fact 72 rfl)
    M__state := meth_ok (d.fact 73 rfl)
    M__enter := meth_ok (d.fact 74 rfl)
    M_go := meth_ok (d.fact 75 rfl)
    M_wish := meth_ok (d.fact 76 rfl)
    M__check_wish := meth_ok (d.fact 77 rfl)
    M_promise := meth_ok (d.fact 78 rfl)
    M_release := meth_ok (d.fact 79 rfl)
    M_lose := meth_ok (d.fact 80 rfl)
    M_sky := meth_ok (d.fact 81 rfl)
    M_begun := meth_ok (d.fact 82 rfl)
    M_promises := meth_ok (d.fact 83 rfl)
    M_plan := meth_ok (d.fact 84 rfl)
    M_worth := meth_ok (d.fact 85 rfl)
    p_now := ⟨ma K (ga K "Console") "now", ⟨eqO_ok m13, eqO_ok m14, of_decide_eq_true m15, by
      unfold A_Console_now nowAd
      split at m16
      · rename_i g rest hr
        rw [hr]
        exact ⟨rest, rfl⟩
      · cases m16⟩⟩
    m_BadSize := gl 86 rfl
    E_BadSize := sky_hd (x := "BadSize") (st := stE_BadSize) (iv 1 rfl rfl) (sb _ (by decide))
    X_BadSize := isa_hd (x := "BadSize") (ib _ (by decide))
    m_BadNumber := gl 87 rfl
    E_BadNumber := sky_hd (x := "BadNumber") (st := stE_BadNumber) (iv 2 rfl rfl) (sb _ (by decide))
    X_BadNumber := isa_hd (x := "BadNumber") (ib _ (by decide))
    m_BadWish := gl 88 rfl
    E_BadWish := sky_hd (x := "BadWish") (st := stE_BadWish) (iv 3 rfl rfl) (sb _ (by decide))
    X_BadWish := isa_hd (x := "BadWish") (ib _ (by decide))
    m_BadTime := gl 89 rfl
    E_BadTime := sky_hd (x := "BadTime") (st := stE_BadTime) (iv 4 rfl rfl) (sb _ (by decide))
    X_BadTime := isa_hd (x := "BadTime") (ib _ (by decide))
    m_BadEar := gl 90 rfl
    E_BadEar := sky_hd (x := "BadEar") (st := stE_BadEar) (iv 5 rfl rfl) (sb _ (by decide))
    X_BadEar := isa_hd (x := "BadEar") (ib _ (by decide))
    m_NotSo := gl 91 rfl
    E_NotSo := sky_hd (x := "NotSo") (st := stE_NotSo) (iv 6 rfl rfl) (sb _ (by decide))
    X_NotSo := isa_hd (x := "NotSo") (ib _ (by decide))
    m_Clash := gl 92 rfl
    E_Clash := sky_hd (x := "Clash") (st := stE_Clash) (iv 7 rfl rfl) (sb _ (by decide))
    X_Clash := isa_hd (x := "Clash") (ib _ (by decide))
    m_NothingToUndo := ⟨_, gl 93 rfl, kit_hd m4⟩
    m_NothingToRedo := ⟨_, gl 94 rfl, kit_hd m5⟩
    m_BadEntry := ⟨_, gl 95 rfl, kit_hd m6⟩
    m_SkyError := ⟨_, gl 96 rfl, kit_hd m7, fun c hc => of_decide_eq_true (List.all_eq_true.mp m8 c (List.mem_range.mpr hc))⟩
    kits := kit
    inj := fun c d hc hd e => by
      have z := kit c d hc hd
      have z2 := kit c c hc hc
      have e' : ecF K c = ecF K d := e
      rw [← e', z2] at z
      simpa using z
    saC := eqO_ok m9
    noW := eqO_ok m10
    kT := rfl
    nT := by simpa using m11
    er := rfl
    tb1 := t1
    tb2 := t2 }
end
end Sk
set_option Elab.async false
set_option linter.all false
set_option maxRecDepth 100000
set_option maxHeartbeats 4000000
/-! The law is called by the claim's caller. -/
namespace Sk
open PySem PySem.Spec PyProof.Rows L2 Dl PySem.SkyX He
theorem law_room : Room 15 callerA := ⟨rfl, by decide, by decide⟩
theorem no14 (i : Nat) (d : PyData) : ¬ ([none, none, none, none, none, none, none, none, none, none, none, none, none, none] : Dt)[i]? = some (some d) := by
  intro e
  have z := List.mem_of_getElem? e
  simp at z
section
variable {w : World} {K : PySem.W.Frag} {mg : Str → Option Value} {base : Heap} {fd : Nat → FuncData} {k : Cl}
/-- the body, run from the caller -/
theorem law_runs (y : Hy K mg base fd k) {s : Shared} {H : Hp} {a : Addr} {ns : List Int} (hn : ns.length ≤ 63) (z : SqL K H a (ns.map V.int)) (tb : LamX.Tabs k.T H) (e0 : Env0 Pg w K mg base callerA [] s H) :
    codeAny (model Pg w) callerA (.call (.ref (A_law K)) ⟨[.ref a], []⟩) (CR (L2.CX Pg w) [] Pg w H s (fun v _ => v = .bl true) fun _ _ _ => False) s := by
  have F := y.F_law
  obtain ⟨oc, od, dV, kV, doc, pm, an, cdv, ct, osl, e1, lk, hcd, r1, r2⟩ := F.ex
  have bnd := (F.bindsA (ps := ["_law_script"]) fun _ _ _ _ _ _ us hl => match us, hl with | [_], _ => rfl) s [.ref a] rfl
  rw [e1] at lk bnd
  refine LamX.run_ofS (vs := [.ref a]) lk hcd sc_law law_room e0 bnd (.cons (show L2.RelV (V.ref a) (Value.ref a) from rfl) .nil) rfl fun hr => ?_
  obtain ⟨δ, hδ⟩ := law_holds ns (by omega)
  refine ⟨_, body_lawS ns y hr rfl (F0 := fun _ => none) (H0 := H), ⟨a, rfl, z⟩, fun _ => none, [none, none, none, none, none, none, none, none, none, none, none, none, none, none], _, .refl ⟨(fun _ _ q => nomatch q), (fun _ _ q => nomatch q)⟩ (fun _ q => nomatch q), ⟨rfl, fun i d hi e => ?_, fun i d hi e => ?_, fun i j b c hi hj ne e1 e2 => ?_, tb⟩, (fun p q => nomatch q), hδ, ?_⟩
  · exact absurd e (no14 i d)
  · exact absurd e (no14 i d)
  · exact absurd e1 (no14 i b)
  · intro v F' H' b _ r'
    show v = .bl true
    cases r'
    rfl
end
end Sk
set_option Elab.async false
set_option linter.all false
set_option maxRecDepth 100000
set_option maxHeartbeats 4000000
/-! From the caller's heap to the law's end. -/
namespace Sk
open PySem PySem.Spec PyProof.Rows L2 Dl He
/-- what is tracked when the law starts: the two tables; the script, if the head does not know its place -/
def scH (K : PySem.W.Frag) (a t u : Addr) (o : Obj) (xs : List V) : Hp := fun b => if b = t ∨ b = u then some (.tbl #[]) else if b = a ∧ (K.lookup a).isNone = true then some (.frz o (.lst xs)) else none
section
variable {K : PySem.W.Frag} {a t u : Addr} {o : Obj} {xs : List V}
theorem scH_tab {b : Addr} (h : b = t ∨ b = u) : scH K a t u o xs b = some (.tbl #[]) := if_pos h
theorem scH_cases {b : Addr} {v : HO} (h : scH K a t u o xs b = some v) : ((b = t ∨ b = u) ∧ v = .tbl #[]) ∨ (b = a ∧ K.lookup a = none ∧ v = .frz o (.lst xs)) := by
  unfold scH at h
  split at h
  · rename_i c
    cases h
    exact .inl ⟨c, rfl⟩
  · split at h
    · rename_i c
      cases h
      exact .inr ⟨c.1, Option.isNone_iff_eq_none.mp c.2, rfl⟩
    · cases h
theorem scH_a (n : ¬ (a = t ∨ a = u)) (h : K.lookup a = none) : scH K a t u o xs a = some (.frz o (.lst xs)) := by
  unfold scH
  rw [if_neg n, if_pos ⟨rfl, by rw [h]; rfl⟩]
theorem scH_no {b : Addr} (n : ¬ (b = t ∨ b = u)) (h : b = a → ∃ q, K.lookup a = some q) : scH K a t u o xs b = none := by
  cases e : scH K a t u o xs b with
  | none => rfl
  | some v =>
    rcases scH_cases e with ⟨c, _⟩ | ⟨c1, c2, _⟩
    · exact absurd c n
    · obtain ⟨q, hq⟩ := h c1
      rw [c2] at hq
      cases hq
end
theorem law_end {w : World} {s : Shared} {mg mb : Str → Option Value} {a : Addr} {vs : List Value} {ns : List Int} {K : PySem.W.Frag} (KX : K.In s.heap) (c : SaysX hdFa hdFn [] hdTf moreB w s.heap K) (ci : inS K = inSW)
    (hG : s.heap.Ns mainGlobals mg) (hB : s.heap.Ns builtinsNs mb) (bb : ∀ x : Str, x ≠ "__name__" → mb x = bootBuiltins x) (lim : s.heap.NoLimit) (gn : s.gens = #[])
    (bm : ∃ (m : Addr) (ob : Obj), mg "__builtins__" = some (.ref m) ∧ m ≠ builtinsNs ∧ s.heap.get? m = some ob ∧ ob.cls = .type "module" ∧ ob.dict = some builtinsNs ∧ ob.data = .plain)
    (ho : s.heap.get? a = some { cls := .type "list", data := .seq vs.toArray }) (hi : IntsAre vs ns) (hl : ns.length ≤ 63) :
    codeAny (model Pg w) callerA (.call (.ref (A_law K)) ⟨[.ref a], []⟩) (fun r s' => r = .ok (.ret (.bool true)) ∧ OldK s.heap s'.heap ∧ s'.os = s.os ∧ AllBare s'.gens) s := by
  obtain ⟨t, ht⟩ : ∃ t, t = (cT K ("parts_of", none)).2 := ⟨_, rfl⟩
  obtain ⟨u, hu⟩ : ∃ u, u = (cT K ("with_late", none)).2 := ⟨_, rfl⟩
  have m1 : (("parts_of", none) : Defn) ∈ hdTf := List.mem_cons_self
  have m2 : (("with_late", none) : Defn) ∈ hdTf := List.mem_cons_of_mem _ List.mem_cons_self
  have et := c.empty _ m1
  have eu := c.empty _ m2
  have kt := c.out _ m1
  have ku := c.out _ m2
  have ct := PySem.W.codeHd_of_K KX (c.hd _ m1)
  have cu := PySem.W.codeHd_of_K KX (c.hd _ m2)
  rw [← ht] at et kt ct
  rw [← hu] at eu ku cu
  have tab : ∀ b, b = t ∨ b = u → s.heap.get? b = some { cls := .none, data := .fields #[] } := fun b hb => by
    rcases hb with rfl | rfl
    · exact et
    · exact eu
  have na : ¬ (a = t ∨ a = u) := fun q => by
    have z := tab a q
    rw [ho] at z
    have z2 : Data.seq vs.toArray 0 = Data.fields #[] := congrArg Obj.data (Option.some.inj z)
    cases z2
  obtain ⟨os, hos⟩ : ∃ os : Obj, os = { cls := .type "list", data := .seq vs.toArray } := ⟨_, rfl⟩
  obtain ⟨H, hH⟩ : ∃ H, H = scH K a t u os (ns.map V.int) := ⟨_, rfl⟩
  have rv := vals_ints hi
  have lv := hi.length
  have look : ∀ {b : Addr} {v : HO}, H b = some v → ((b = t ∨ b = u) ∧ v = .tbl #[]) ∨ (b = a ∧ K.lookup a = none ∧ v = .frz os (.lst (ns.map V.int))) := fun {b v} e => by
    rw [hH] at e
    exact scH_cases e
  have inK : ∀ {b : Addr} {q : Obj}, K.lookup b = some q → H b = none := fun {b q} e => by
    cases z : H b with
    | none => rfl
    | some v =>
      rcases look z with ⟨c1 | c1, _⟩ | ⟨c1, c2, _⟩
      · rw [c1, kt] at e; cases e
      · rw [c1, ku] at e; cases e
      · rw [c1, c2] at e; cases e
  have off : ∀ {b : Addr} {q : Obj}, s.heap.get? b = some q → (∀ its n, q.data ≠ .seq its n) → q.data ≠ .fields #[] → H b = none := fun {b q} e q1 q2 => by
    cases z : H b with
    | none => rfl
    | some v =>
      rcases look z with ⟨c1, _⟩ | ⟨c1, _⟩
      · rw [tab b c1] at e
        cases e
        exact absurd rfl q2
      · rw [c1, ho] at e
        cases e
        exact absurd rfl (q1 _ _)
  have nsB : ∀ {b : Addr} {m : Str → Option Value}, s.heap.Ns b m → (hidT s.heap H).Ns b m := fun {b m} ⟨q, es, ep, e, d, r⟩ => by
    refine ⟨q, es, ep, hidT_get e (off e (fun its n z => ?_) fun z => ?_), d, r⟩
    · rw [d] at z; cases z
    · rw [d] at z; cases z
  have kin : K.In (hidT s.heap H) := fun b q e => hidT_get (KX b q e) (inK e)
  have hok : HOk Pg w H s.heap := fun b v e => by
    rcases look e with ⟨c1, c2⟩ | ⟨c1, _, c2⟩
    · rw [c2]
      exact tab b c1
    · rw [c2, c1]
      refine ⟨by rw [hos]; exact ho, by rw [List.length_map, sizeLine_eq]; omega, vs, 0, rv, ho⟩
  have md : L2.Mod K mg (hidT s.heap H) := by
    refine ⟨kin, nsB hG, ⟨mb, nsB hB, bb⟩, ?_⟩
    obtain ⟨mc, l1, l2⟩ := lim
    exact ⟨mc, nsB l1, l2⟩
  have e0 : Env0 Pg w K mg (hidT s.heap H) callerA [] s H := ⟨rfl, md, (fun b q e => of_hidT e), Nat.le_of_eq (hidT_size _ _), trivial, (fun b hb => by cases hb), hok, .of_eq gn⟩
  have tb : ∀ (p : Defn), p ∈ hdTf → s.heap.get? (cT K p).2 = some { cls := .none, data := .fields #[] } → LamX.TabB (hidT s.heap H) mg (cT K p).1 (cT K p).2 := fun p hp ep => by
    obtain ⟨gq, ges, gep, ge, gd, _⟩ := hG
    refine ⟨PySem.W.codeHd_of_K kin (c.hd _ hp), ?_, fun z => ?_⟩
    · obtain ⟨m, ob, b1, b2, b3, b4, b5, b6⟩ := bm
      refine ⟨m, ob, b1, b2, fun z => ?_, fun z => ?_, hidT_get b3 (off b3 (fun its n z => ?_) fun z => ?_), b4, b5, b6⟩
      · rw [z, ge] at b3
        cases b3
        rw [gd] at b6
        cases b6
      · rw [z, ep] at b3
        cases b3
        cases b6
      · rw [b6] at z; cases z
      · rw [b6] at z; cases z
    · rw [z, ep] at ge
      cases ge
      cases gd
  have y := hy_of (base := hidT s.heap H) KX hG c ci (tb _ m1 (c.empty _ m1)) (tb _ m2 (c.empty _ m2))
  have sq : SqL K H a (ns.map V.int) := by
    cases ka : K.lookup a with
    | none => exact .inl (.inr ⟨os, by rw [hH]; exact scH_a na ka⟩)
    | some q =>
      have z := KX a q ka
      rw [ho] at z
      cases z
      refine .inr ⟨_, vs.toArray, 0, ka, rfl, rfl, rfl, ?_, by simpa using rv⟩
      rw [List.size_toArray, lv, sizeLine_eq]
      omega
  have hts : LamX.Tabs (clF K).T H := by
    intro p hp
    have hp : p ∈ [(t, ("parts_of" ++ ".<locals>." : Str) ++ "<lambda>"), (u, ("with_late" ++ ".<locals>." : Str) ++ "<lambda>")] := by rw [ht, hu]; exact hp
    have e : H p.1 = some (.tbl #[]) := by
      rw [hH]
      rcases List.mem_cons.mp hp with e | e
      · rw [e]; exact scH_tab (.inl rfl)
      · rw [List.mem_singleton.mp e]; exact scH_tab (.inr rfl)
    exact ⟨#[], e, trivial, fun pos cv z => by cases z⟩
  refine codeAny_mono (law_runs y hl sq hts e0) fun r s' h => ?_
  cases r with
  | error e =>
    exfalso
    have h : L2.CX Pg w [] H s (fun _ _ _ => False) e s' := h
    obtain ⟨_, _, _, _, _, _, _, _, _, _, _, _, z⟩ := h
    exact z
  | ok fl =>
    cases fl with
    | next => exact h.elim
    | brk => exact h.elim
    | cont => exact h.elim
    | ret v =>
      obtain ⟨x, H', e1, e2, un, hok', rl, e3⟩ := h
      have e3 : x = .bl true := e3
      subst e3
      obtain rfl : v = Value.bool true := rl
      have was : ∀ b q, s.heap.get? b = some q → s'.heap.get? b = some q ∨ ((b = t ∨ b = u) ∧ ∃ more, s'.heap.get? b = some { cls := .none, data := .fields more }) := fun b q e => by
        cases z : H b with
        | none => exact .inl (un.keep b q e z (fun k => by cases k) (fun k => by cases k))
        | some v =>
          rcases look z with ⟨c1, c2⟩ | ⟨c1, _, c2⟩
          · rw [c2] at z
            obtain ⟨more, z2⟩ := un.tbls b #[] z
            exact .inr ⟨c1, _, hok' b _ z2⟩
          · rw [c2] at z
            have z2 := (hok' b _ (un.frzs b os _ z)).1
            rw [c1] at e z2 ⊢
            rw [ho] at e
            cases e
            rw [hos] at z2
            exact .inl z2
      refine ⟨rfl, ⟨fun b q e => ?_, fun b q e => ?_⟩, e1, e2⟩
      · rcases was b q e with z | ⟨c1, more, z⟩
        · exact .inl z
        · have e4 := tab b c1
          rw [e] at e4
          cases e4
          refine .inr (.inl ⟨?_, rfl, #[], more, rfl, by rw [Array.empty_append]; exact z⟩)
          rcases c1 with rfl | rfl
          · exact (ct.tab et).isCodeTable
          · exact (cu.tab eu).isCodeTable
      · rcases was b q e with z | ⟨_, more, z⟩
        · exact ⟨_, z⟩
        · exact ⟨_, z⟩
end Sk
set_option Elab.async false
set_option linter.all false
set_option maxRecDepth 100000
set_option maxHeartbeats 0
/-! The law holds. -/
open PySem PySem.W PySem.Calls PyProof.Rows
theorem PySem.Challenge.cw_skypasses_k81_whole_promises_are_kept_holds : PySem.Challenge.rw_skypasses_k81_whole_promises_are_kept.Holds := by
  w_on; o_law
  refine HandSHeadRun.head_any (r := Sk.hdR) (q := Sk.hdV) (H := Sk.hdHook) (ob := Sk.hdOb) (M := 6000) (loose := Sk.hdN) (d := HandSHeadRun.topDef Sk.hdR.prog 64) (kwd := []) Sk.hdOb_eq
    (by kernel_rfl) (fun s => by kernel_rfl) Sk.hd_run (by kernel_rfl) (by kernel_rfl) (by kernel_rfl) (by rfl) (by first | assumption | decide +kernel) (by decide +kernel) ⟨rfl, rfl, rfl, rfl, rfl, by decide +kernel⟩ ?hw ?hc
  case hw => w_witness2
  case hc =>
    refine Att.attach_callB (l := PySem.Challenge.rw_skypasses_k81_whole_promises_are_kept) (n := 63) rfl (by kernel_rfl) fun w s₀ s₁ mg mb fa o pm cd doc a vs ns G Y ho hd hcd hmg hobj hints hlen hbits hg => ?_
    obtain ⟨K, KX, c, ci⟩ := Y
    have e : (HandSHeadRun.topDef Sk.hdR.prog 64).name = ("law" : PySem.Str) := by kernel_rfl
    rw [e] at hmg
    have z := He.glo_ok KX G.T.g (c.t.d.fact 36 (f := .glo "law") rfl)
    rw [hmg] at z
    cases z
    exact Sk.law_end KX c ci G.T.g G.T.b G.T.builtins G.T.nolimit hg G.T.bmain hobj hints hlen
