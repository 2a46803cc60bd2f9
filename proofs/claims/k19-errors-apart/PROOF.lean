import PyProof.Rows.All
import Wide.All
import OpenK.AllK
import Wide.FinOn
import KE.KStateDown
import HandS.ForMost
import HandS.ForExc
import HandS.Defaults
import HandS.CallSlots
import HandS.Lambda
import HandS.HeadWalk
import HandS.HeadHook2
import HandS.HeadEnd
import HandS.HotCalls
import HandS.ExcIs
import HandS.ExcValue
import KE.KDictKeyed
import HandS.TupAny
import HandS.TupMul
import HandS.Style
import HandS.Deep
import HandS.IsInst
import HandS.Wide
import HandS.Text
import HandS.Zip
import HandS.Zip0
import PyProof.Draws
import PyProof.EnumMake
import HandS.HeadHook4
import HandS.SetFor
import HandS.WordsDict
import HandS.ReplaceLit
import HandS.Head2
import HandS.ReplaceList
import KE.DatumOrd
import HandS.SortKw
import HandS.OwnEq
import HandS.Nested
import HandS.TupLen
import HandS.DictComp
import KE.SortKeyHeap
import KE.KSortKey
import HandS.TupSets
import HandS.Strs
import KE.SortData
import PyProof.ToksMono
import PySem.Challenge.RW_regexsteps_k19_errors_apart
set_option Elab.async false
set_option linter.all false
set_option maxRecDepth 100000
set_option maxHeartbeats 1000000
namespace DL
open PySem PySem.Spec PyProof.Rows
theorem obs_join {n : Nat} {fa : List He.Fa} {fn : List He.DefD} {tf : List He.Defn} {ex : PySem.W.Frag → Bool} {g : Addr → Option Obj} {w : World} (a b : Nat)
    (h1 : He.obsX n (fa.take a) (fn.take b) [] [] (fun _ => true) g = He.valX (fn.take b) [] w) (h2 : He.obsX n (fa.drop a) (fn.drop b) [] tf ex g = He.valX (fn.drop b) [] w) : He.obsX n fa fn [] tf ex g = He.valX fn [] w := by
  unfold He.obsX He.valX He.obsT He.valT He.obsD He.valD at *
  generalize He.frT g (He.asD g n) = K at *
  have a1 := congrArg (fun z : He.AlX => z.1.1.1) h1
  have a2 := congrArg (fun z : He.AlX => z.1.1.2) h1
  have b1 := congrArg (fun z : He.AlX => z.1.1.1) h2
  have b2 := congrArg (fun z : He.AlX => z.1.1.2) h2
  have b3 := congrArg (fun z : He.AlX => z.2) h2
  simp only [Bool.and_eq_true] at a1 b1
  have e1 : fa.all (fun f => f.ok K) = true := by
    rw [← List.take_append_drop a fa, List.all_append, a1.1, b1.1]
    rfl
  have e2 : fn.all (fun d => d.ok K) = true := by
    rw [← List.take_append_drop b fn, List.all_append, a1.2, b1.2]
    rfl
  have e3 : fn.map (fun d => He.fnW K d.at_) = fn.map He.DefD.val := by
    conv => lhs; rw [← List.take_append_drop b fn]
    conv => rhs; rw [← List.take_append_drop b fn]
    rw [List.map_append, List.map_append]
    exact congr (congrArg _ a2) b2
  have b3' : (ex K && He.tabsB g tf K) = true := b3
  rw [e1, e2, e3, b3']
  rfl
theorem run_join {α β γ δ ε ζ : Type} {o : Option α} {f1 : α → β} {f2 : α → γ} {g1 : α → δ} {g2 : α → ε} {g : α → ζ} {x : β} {y : γ} {v1 : δ} {v2 : ε} {v : ζ} (h1 : o.map (fun s => (f1 s, f2 s)) = some (x, y)) (h3 : o.map g1 = some v1) (h4 : o.map g2 = some v2) (hj : ∀ s, g1 s = v1 → g2 s = v2 → g s = v) : o.map (fun s => (f1 s, f2 s, g s)) = some (x, y, v) := by
  cases o with
  | none => cases h1
  | some s =>
    injection h1 with h1
    injection h1 with e1 e2
    injection h3 with h3
    injection h4 with h4
    show some (f1 s, f2 s, g s) = _
    rw [e1, e2, hj s h3 h4]
end DL
set_option Elab.async false
set_option linter.all false
set_option maxRecDepth 100000
set_option maxHeartbeats 2000000
namespace DL
open PySem PySem.Spec PyProof.Rows L2 L2H HotX LamX
def exNames0 : List Str := ["BadPattern", "BadText", "BadWord", "BadPosition", "BadLength", "BadDegree", "BadBudget", "BadSyntax", "TooMany", "NothingToUndo"]
def excB0 (K : PySem.W.Frag) (D : Addr) : Bool :=
  decide (PySem.W.findIn K (.ref D) "__getattribute__" = some (some (.builtin "BaseException.__getattribute__"))) && decide (PySem.W.findIn K (.ref D) "__getattr__" = some none) && decide (PySem.W.subIn K (.ref D) (.type "BaseException") = some true) && PySem.W.hasDictIn K D &&
  decide (PySem.W.findIn K (.ref D) "__class__" = some (some (.builtin "object.__class__"))) && decide (PySem.W.specialIn K (.builtin "object.__class__") "__get__" = some (some (.builtin "getset_descriptor.__get__"))) && decide (PySem.W.takesIn K (.builtin "object.__class__") = some true) && decide (PySem.W.mroIn K D (.type "object") = some true)
def exB0 (K : PySem.W.Frag) : Bool := exNames0.all fun c => excB0 K (He.ga K c) && (exNames0.all fun c' => decide (PySem.W.kitOne K (.ref (He.ga K c)) (.ref (He.ga K c')) = some (decide (c = c')))) && (decide (PySem.W.kitOne K (.ref (He.ga K c)) (.type "ValueError") = some true) && decide (PySem.W.exmOne K (.ref (He.ga K c)) (.ref (He.ga K "StepError")) = some true))
end DL
set_option Elab.async false
set_option linter.all false
set_option maxRecDepth 100000
set_option maxHeartbeats 0
namespace LW
open PySem PySem.Spec PyProof.Rows L2 L2H HotX LamX DL
def top (i : Nat) : Stmt := PySem.Challenge.pw_regexsteps_k19_errors_apart.main.body.getD i (.Pass ⟨0, 0, 0, 0⟩)
def mth (i j : Nat) : Stmt := match top i with
  | .ClassDef (body := b) .. => b.getD j (.Pass ⟨0, 0, 0, 0⟩)
  | x => x
def d0 : He.DefD := ⟨("_law_cell", none), "_law_cell", "_law_cell", defArgs (top 68), defBody (top 68), defScope (top 68), [], []⟩
def d1 : He.DefD := ⟨("_law_met", none), "_law_met", "_law_met", defArgs (top 72), defBody (top 72), defScope (top 72), [], []⟩
def d2 : He.DefD := ⟨("_law_drawn", none), "_law_drawn", "_law_drawn", defArgs (top 69), defBody (top 69), defScope (top 69), [], []⟩
def d3 : He.DefD := ⟨("_law_roll", none), "_law_roll", "_law_roll", defArgs (top 70), defBody (top 70), defScope (top 70), [], []⟩
def d4 : He.DefD := ⟨("Suite", some "undo"), "undo", "Suite.undo", defArgs (mth 66 8), defBody (mth 66 8), defScope (mth 66 8), [], []⟩
def d5 : He.DefD := ⟨("is_letters", none), "is_letters", "is_letters", defArgs (top 19), defBody (top 19), defScope (top 19), [], []⟩
def d6 : He.DefD := ⟨("has_shape", none), "has_shape", "has_shape", defArgs (top 20), defBody (top 20), defScope (top 20), [], []⟩
def d7 : He.DefD := ⟨("items_of", none), "items_of", "items_of", defArgs (top 21), defBody (top 21), defScope (top 21), [], []⟩
def d8 : He.DefD := ⟨("nullable", none), "nullable", "nullable", defArgs (top 22), defBody (top 22), defScope (top 22), [], []⟩
def d9 : He.DefD := ⟨("stars_are_good", none), "stars_are_good", "stars_are_good", defArgs (top 25), defBody (top 25), defScope (top 25), [], []⟩
def d10 : He.DefD := ⟨("node_count", none), "node_count", "node_count", defArgs (top 24), defBody (top 24), defScope (top 24), [], []⟩
def d11 : He.DefD := ⟨("all_sets", none), "all_sets", "all_sets", defArgs (top 23), defBody (top 23), defScope (top 23), [], []⟩
def d12 : He.DefD := ⟨("is_pattern", none), "is_pattern", "is_pattern", defArgs (top 26), defBody (top 26), defScope (top 26), [], []⟩
def d13 : He.DefD := ⟨("check_pattern", none), "check_pattern", "check_pattern", defArgs (top 27), defBody (top 27), defScope (top 27), [], []⟩
def d14 : He.DefD := ⟨("growth", none), "growth", "growth", defArgs (top 34), defBody (top 34), defScope (top 34), [], []⟩
def d15 : He.DefD := ⟨("is_text", none), "is_text", "is_text", defArgs (top 40), defBody (top 40), defScope (top 40), [], []⟩
def d16 : He.DefD := ⟨("check_text", none), "check_text", "check_text", defArgs (top 42), defBody (top 42), defScope (top 42), [], []⟩
def d17 : He.DefD := ⟨("Run", some "tried"), "tried", "Run.tried", defArgs (mth 43 1), defBody (mth 43 1), defScope (mth 43 1), [], []⟩
def d18 : He.DefD := ⟨("Run", some "__init__"), "__init__", "Run.__init__", defArgs (mth 43 0), defBody (mth 43 0), defScope (mth 43 0), [], []⟩
def d19 : He.DefD := ⟨("Machine", some "firsts"), "firsts", "Machine.firsts", defArgs (mth 28 2), defBody (mth 28 2), defScope (mth 28 2), [], []⟩
def d20 : He.DefD := ⟨("Machine", some "choices"), "choices", "Machine.choices", defArgs (mth 28 1), defBody (mth 28 1), defScope (mth 28 1), [], []⟩
def d21 : He.DefD := ⟨("Machine", some "assign"), "assign", "Machine.assign", defArgs (mth 28 3), defBody (mth 28 3), defScope (mth 28 3), [], []⟩
def d22 : He.DefD := ⟨("Machine", some "__init__"), "__init__", "Machine.__init__", defArgs (mth 28 0), defBody (mth 28 0), defScope (mth 28 0), [], []⟩
def d23 : He.DefD := ⟨("run_of", none), "run_of", "run_of", defArgs (top 44), defBody (top 44), defScope (top 44), [], []⟩
def d24 : He.DefD := ⟨("steps", none), "steps", "steps", defArgs (top 45), defBody (top 45), defScope (top 45), [], []⟩
def d25 : He.DefD := ⟨("is_word", none), "is_word", "is_word", defArgs (top 41), defBody (top 41), defScope (top 41), [], []⟩
def d26 : He.DefD := ⟨("Machine", some "reached"), "reached", "Machine.reached", defArgs (mth 28 4), defBody (mth 28 4), defScope (mth 28 4), [], []⟩
def d27 : He.DefD := ⟨("advanced", none), "advanced", "advanced", defArgs (top 49), defBody (top 49), defScope (top 49), [], []⟩
def d28 : He.DefD := ⟨("path_counts", none), "path_counts", "path_counts", defArgs (top 48), defBody (top 48), defScope (top 48), [], []⟩
def d29 : He.DefD := ⟨("paths_to", none), "paths_to", "paths_to", defArgs (top 50), defBody (top 50), defScope (top 50), [], []⟩
def d30 : He.DefD := ⟨("is_integer", none), "is_integer", "is_integer", defArgs (top 18), defBody (top 18), defScope (top 18), [], []⟩
def d31 : He.DefD := ⟨("check_position", none), "check_position", "check_position", defArgs (top 29), defBody (top 29), defScope (top 29), [], []⟩
def d32 : He.DefD := ⟨("follow_list", none), "follow_list", "follow_list", defArgs (top 30), defBody (top 30), defScope (top 30), [], []⟩
def d33 : He.DefD := ⟨("all_texts", none), "all_texts", "all_texts", defArgs (top 51), defBody (top 51), defScope (top 51), [], []⟩
def d34 : He.DefD := ⟨("worst", none), "worst", "worst", defArgs (top 52), defBody (top 52), defScope (top 52), [], []⟩
def d35 : He.DefD := ⟨("is_ladder", none), "is_ladder", "is_ladder", defArgs (top 58), defBody (top 58), defScope (top 58), [], []⟩
def d36 : He.DefD := ⟨("Suite", some "__init__"), "__init__", "Suite.__init__", defArgs (mth 66 0), defBody (mth 66 0), defScope (mth 66 0), [], []⟩
def d37 : He.DefD := ⟨("Reader", some "__init__"), "__init__", "Reader.__init__", defArgs (mth 62 0), defBody (mth 62 0), defScope (mth 62 0), [], []⟩
def d38 : He.DefD := ⟨("Reader", some "peek"), "peek", "Reader.peek", defArgs (mth 62 1), defBody (mth 62 1), defScope (mth 62 1), [], []⟩
def d39 : He.DefD := ⟨("Reader", some "take"), "take", "Reader.take", defArgs (mth 62 2), defBody (mth 62 2), defScope (mth 62 2), [], []⟩
def d40 : He.DefD := ⟨("Reader", some "atom"), "atom", "Reader.atom", defArgs (mth 62 5), defBody (mth 62 5), defScope (mth 62 5), [], []⟩
def d41 : He.DefD := ⟨("Reader", some "repeated"), "repeated", "Reader.repeated", defArgs (mth 62 4), defBody (mth 62 4), defScope (mth 62 4), [], []⟩
def d42 : He.DefD := ⟨("Reader", some "sequence"), "sequence", "Reader.sequence", defArgs (mth 62 3), defBody (mth 62 3), defScope (mth 62 3), [], []⟩
def d43 : He.DefD := ⟨("grouped", none), "grouped", "grouped", defArgs (top 60), defBody (top 60), defScope (top 60), [], []⟩
def d44 : He.DefD := ⟨("written", none), "written", "written", defArgs (top 61), defBody (top 61), defScope (top 61), [], []⟩
def d45 : He.DefD := ⟨("parse", none), "parse", "parse", defArgs (top 63), defBody (top 63), defScope (top 63), [], []⟩
def d46 : He.DefD := ⟨("attempts", none), "attempts", "attempts", defArgs (top 47), defBody (top 47), defScope (top 47), [], []⟩
def d47 : He.DefD := ⟨("_law_alone", none), "_law_alone", "_law_alone", defArgs (top 73), defBody (top 73), defScope (top 73), [], []⟩
def d48 : He.DefD := ⟨("_law_rounds", none), "_law_rounds", "_law_rounds", defArgs (top 71), defBody (top 71), defScope (top 71), [], []⟩
def d49 : He.DefD := ⟨("law", none), "law", "law", defArgs (top 74), defBody (top 74), defScope (top 74), [], []⟩
def fn : List He.DefD := [d0, d1, d2, d3, d4, d5, d6, d7, d8, d9, d10, d11, d12, d13, d14, d15, d16, d17, d18, d19, d20, d21, d22, d23, d24, d25, d26, d27, d28, d29, d30, d31, d32, d33, d34, d35, d36, d37, d38, d39, d40, d41, d42, d43, d44, d45, d46, d47, d48, d49]
def fa : List He.Fa := [.free "len", .glo "_law_cell", .glo "StepError", .glo "_law_met", .glo "_law_drawn", .glo "_law_roll", .noat "Suite" "history", .noat "Suite" "texts", .noat "Suite" "budget", .noat "Suite" "current", .cls "Suite", .glo "NothingToUndo", .exc "NothingToUndo", .meth "Suite" "undo", .free "isinstance", .free "str", .str "LETTERS" "abc", .free "all", .free "zip", .glo "is_letters", .free "tuple", .glo "has_shape", .glo "items_of", .free "any", .glo "nullable", .glo "stars_are_good", .free "sum", .glo "node_count", .glo "all_sets", .int "MOST_NODES" (16), .int "MOST_SETS" (8), .glo "is_pattern", .glo "BadPattern", .exc "BadPattern", .glo "check_pattern", .glo "growth", .str "CHARACTERS" "abcx", .glo "is_text", .glo "BadText", .exc "BadText", .glo "check_text", .int "END" (-1), .noat "Run" "result", .noat "Run" "text", .noat "Run" "machine", .cls "Run", .noat "Machine" "start", .noat "Machine" "follow", .noat "Machine" "letters", .cls "Machine", .meth "Run" "tried", .free "range", .glo "Run", .mkr "Run", .meth "Machine" "firsts", .free "list", .meth "Machine" "choices", .meth "Machine" "assign", .glo "Machine", .mkr "Machine", .glo "run_of", .int "MOST_TEXT" (60), .glo "steps", .glo "is_word", .meth "Machine" "reached", .free "enumerate", .glo "advanced", .glo "path_counts", .glo "BadWord", .exc "BadWord", .glo "paths_to", .free "int", .free "bool", .glo "is_integer", .glo "BadPosition", .exc "BadPosition", .glo "check_position", .glo "follow_list", .glo "all_texts", .int "LONGEST_WORST" (5), .glo "BadLength", .exc "BadLength", .glo "worst", .int "MOST_DEGREE" (20), .glo "BadDegree", .exc "BadDegree", .glo "is_ladder", .int "MOST_BUDGET" (1000000), .glo "BadBudget", .exc "BadBudget", .glo "Suite", .mkr "Suite", .noat "Reader" "at", .noat "Reader" "string", .cls "Reader", .glo "Reader", .mkr "Reader", .meth "Reader" "peek", .meth "Reader" "take", .glo "BadSyntax", .exc "BadSyntax", .meth "Reader" "atom", .meth "Reader" "repeated", .meth "Reader" "sequence", .glo "grouped", .glo "written", .glo "parse", .int "MOST_ATTEMPTS" (1000), .glo "TooMany", .exc "TooMany", .glo "attempts", .free "ValueError", .glo "_law_alone", .free "max", .free "min", .glo "_law_rounds", .glo "law"]
def tf : List He.Defn := [("law", none)]
def tabs (K : PySem.W.Frag) : List (Addr × Str) := [((He.cT K ("law", none)).2, (envOfC "law" (defScope (top 74)) 0 0 .none).qual ++ "<lambda>")]
def djK (K : PySem.W.Frag) : Bool := true
def cs (K : PySem.W.Frag) : List (Addr × Addr) := tf.map (He.cT K)
structure Fx (K : PySem.W.Frag) (h : Heap) (mg : Str → Option Value) (base : Heap) : Prop where
  KX : K.In h
  G : h.Ns mainGlobals mg
  c : He.SaysD fa fn K
  ex : exB0 K = true
  TB : ∀ p ∈ cs K, TabB base mg p.1 p.2
  dj : djK K = true
abbrev RR : PySem.W.OpenRow := PySem.W.OpenLaw.row PySem.Challenge.rw_regexsteps_k19_errors_apart
def exk (K : PySem.W.Frag) : Bool := exB0 K && djK K
abbrev hk : PySem.W.Hook := He.hookX 5 fa fn [] tf exk
def ob (s : PySem.W.SharedT) : He.AlX := He.obsX 5 fa fn [] tf exk (HandSHeadRun.getT s)
theorem ob_eq (s : PySem.W.SharedT) : ob s = hk.obs s.abs := He.obsX_eq (HandSHeadRun.getT_eq s)
def loose : List PySem.Str := (["_wall", "StepError", "BadPattern", "BadText", "BadWord", "BadPosition", "BadLength", "BadDegree", "BadBudget", "BadSyntax", "TooMany", "NothingToUndo", "LETTERS", "MOST_SETS", "MOST_NODES", "END", "is_integer", "is_letters", "has_shape", "items_of", "nullable", "all_sets", "node_count", "stars_are_good", "is_pattern", "check_pattern", "Machine", "check_position", "follow_list", "search"] : List PySem.Str) ++ (["Graph", "growth", "MOST_TEXT", "MOST_ATTEMPTS", "LONGEST_WORST", "CHARACTERS", "is_text", "is_word", "check_text", "Run", "run_of", "steps", "Attempts", "attempts", "path_counts", "advanced", "paths_to", "all_texts", "worst", "MOST_DEGREE", "counts_from", "are_words", "crossings_of", "is_ladder", "grouped", "written", "Reader", "parse", "MOST_BUDGET", "Suite"] : List PySem.Str) ++ (["_law_cell", "_law_drawn", "_law_roll", "_law_rounds", "_law_met", "_law_alone"] : List PySem.Str)
section
open PySem PySem.W PySem.Calls PyProof.Rows HandSHeadRun
theorem run0 (w : World) (os : OsState) : (endF (stepQ (denQ tabQ) RR.prog w) 20000 RR.prog w os).map (fun s => (looksF RR.prog (boot_heap w.params) s.abs, seenQ (view RR.prog [74]) loose (importedModules RR.prog.main.body) (fun s => xlAt (view RR.prog [74]) [] s && recOk RR.toRowW.records s) s.abs)) = some (true, openGood (view RR.prog [74]) loose) := by
  kernel_rfl
theorem run1 (w : World) (os : OsState) : (endF (stepQ (denQ tabQ) RR.prog w) 20000 RR.prog w os).map (fun s => He.obsX 5 (LW.fa.take 58) (LW.fn.take 25) [] [] (fun _ => true) (getT s)) = some (He.valX (LW.fn.take 25) [] w) := by
  kernel_rfl
theorem run2 (w : World) (os : OsState) : (endF (stepQ (denQ tabQ) RR.prog w) 20000 RR.prog w os).map (fun s => He.obsX 5 (LW.fa.drop 58) (LW.fn.drop 25) [] LW.tf exk (getT s)) = some (He.valX (LW.fn.drop 25) [] w) := by
  kernel_rfl
theorem run (w : World) : RunEq RR (view RR.prog [74]) hk ob 20000 loose w := fun os =>
  run_join (run0 w os) (run1 w os) (run2 w os) fun s h1 h2 => obs_join 58 25 h1 h2
end
end LW
set_option Elab.async false
set_option linter.all false
set_option maxRecDepth 100000
set_option maxHeartbeats 2000000
namespace DL
open PySem PySem.Spec PyProof.Rows L2
def noStar : Expr → Bool
  | .Starred .. => false
  | _ => true
theorem star_ok (e : Expr) (es : List Expr) (env : PySem.Env) (h : noStar e = true) : starEach (e :: es) env = (false, eval e env) :: starEach es env := by
  cases e <;> first | rfl | cases h
inductive D where
  | non | bl (b : Bool) | int (i : Int) | str (x : Str) | lst (xs : List D) | tup (xs : List D) | ins (c : Str) (ns : List Str) (xs : List D) | scr (ns : List Int) | raw (v : V)
  | dct (ks xs : List D)
  | wd (kvs : List (Str × Str))
  | exc (c : Str)
structure Tb where
  K : PySem.W.Frag
  cls : Str → Option Addr
  exc : Str → Option Addr
  tabs : List (Addr × Str)
  w : World
mutual
def keyOf : D → Option NestedKey
  | .non => some .none
  | .bl b => some (.num (if b = true then 1 else 0))
  | .int i => some (.num i)
  | .str x => some (.text x)
  | .tup xs => (keysOf xs).map .tup
  | _ => none
def keysOf : List D → Option (List NestedKey)
  | [] => some []
  | d :: r => (keyOf d).bind fun k => (keysOf r).map fun ks => k :: ks
end
structure Ent where
  k : NestedKey
  b : Addr
  v : V
def entHash (w : World) (k : NestedKey) : Int := k.hash w
def DctO (w : World) (a : Addr) (es : List Ent) (ep : Nat) : HO := .ext fun h => ∃ (o : Obj) (ar : Array DictEntry) (us : List Value), h.get? a = some o ∧ o.ExactDict ∧ o.data = .dict ar ep ∧ Vals (es.map (·.v)) us ∧
  ar.toList = (es.zip us).map (fun (q : Ent × Value) => (⟨entHash w q.1.k, .ref q.1.b, q.2⟩ : DictEntry)) ∧ (es.map (·.k)).Nodup ∧ es.length ≤ sizeLine ∧ (a == sysModules) = false ∧ ∀ e ∈ es, e.k.depth ≤ 8
def XO (cls : Value) (a : Addr) : HO := .ext fun h => ∃ (oe : Obj) (vs : Array Value), h.get? a = some oe ∧ Zc cls none oe ∧ oe.data = .fields vs
def wdK (kvs : List (Str × Str)) : List (Key × V) := kvs.map fun q => (.inr q.1, .str q.2)
mutual
inductive Rp (T : Tb) (F : Hp) : V → D → Prop
  | non : Rp T F .non .non
  | bl (b : Bool) : Rp T F (.bl b) (.bl b)
  | int (i : Int) : Rp T F (.int i) (.int i)
  | str (x : Str) : Rp T F (.str x) (.str x)
  | lst {a : Addr} {vs : List V} {ds : List D} : F a = some (.lst vs) → RpAll T F vs ds → Rp T F (.ref a) (.lst ds)
  | tup {a : Addr} {vs : List V} {ds : List D} : SqT T.K F a vs → RpAll T F vs ds → Rp T F (.ref a) (.tup ds)
  | ins {a C dx : Addr} {c : Str} {ns : List Str} {fs : List (Str × V)} {ds : List D} : T.cls c = some C → F a = some (.ins C dx fs) → fs.map (·.1) = ns → RpAll T F (fs.map (·.2)) ds → Rp T F (.ref a) (.ins c ns ds)
  | scr {a : Addr} {ns : List Int} : SqL T.K F a (ns.map V.int) → Rp T F (.ref a) (.scr ns)
  | raw (v : V) : Rp T F v (.raw v)
  | exc {a C : Addr} {c : Str} : T.exc c = some C → F a = some (XO (.ref C) a) → Rp T F (.ref a) (.exc c)
  | dct {a : Addr} {es : List Ent} {ep : Nat} {ks xs : List D} : F a = some (DctO T.w a es ep) → ks.map keyOf = es.map (fun e => some e.k) → RpAll T F (es.map fun e => .ref e.b) ks → RpAll T F (es.map (·.v)) xs → Rp T F (.ref a) (.dct ks xs)
  | wd {a : Addr} {kvs : List (Str × Str)} : F a = some (.dK (wdK kvs)) → Rp T F (.ref a) (.wd kvs)
inductive RpAll (T : Tb) (F : Hp) : List V → List D → Prop
  | nil : RpAll T F [] []
  | cons {v : V} {vs : List V} {d : D} {ds : List D} : Rp T F v d → RpAll T F vs ds → RpAll T F (v :: vs) (d :: ds)
end
def Le (F F' : Hp) : Prop := ∀ a o, F a = some o → F' a = some o
theorem Le.refl (F : Hp) : Le F F := fun _ _ h => h
theorem Le.trans {F F1 F2 : Hp} (a : Le F F1) (b : Le F1 F2) : Le F F2 := fun x o h => b x o (a x o h)
theorem Le.new {F : Hp} {p : Addr} {o : HO} (h : F p = none) : Le F (upd F p o) := fun a u e => by
  rw [upd_ne (ne_of_none e h)]
  exact e
theorem Le.rd {F F' : Hp} {a : Addr} {u : HO} (e : Le F F') (h : Rd F a u) : Rd F' a u := by
  rcases h with h | ⟨o, h⟩
  · exact Or.inl (e a _ h)
  · exact Or.inr ⟨o, e a _ h⟩
theorem Le.l {K : PySem.W.Frag} {F F' : Hp} {a : Addr} {xs : List V} (e : Le F F') (h : SqL K F a xs) : SqL K F' a xs := by
  rcases h with h | h
  · exact Or.inl (e.rd h)
  · exact Or.inr h
theorem Le.t {K : PySem.W.Frag} {F F' : Hp} {a : Addr} {xs : List V} (e : Le F F') (h : SqT K F a xs) : SqT K F' a xs := by
  rcases h with h | h
  · exact Or.inl (e.rd h)
  · exact Or.inr h
mutual
theorem Rp.mono {T : Tb} {F F' : Hp} (e : Le F F') : ∀ {v : V} {d : D}, Rp T F v d → Rp T F' v d
  | _, _, .non => .non
  | _, _, .bl b => .bl b
  | _, _, .int i => .int i
  | _, _, .str x => .str x
  | _, _, .lst h a => .lst (e _ _ h) (RpAll.mono e a)
  | _, _, .scr h => .scr (e.l h)
  | _, _, .raw v => .raw v
  | _, _, .exc c h => .exc c (e _ _ h)
  | _, _, .dct h k a b => .dct (e _ _ h) k (RpAll.mono e a) (RpAll.mono e b)
  | _, _, .wd h => .wd (e _ _ h)
  | _, _, .tup h a => .tup (e.t h) (RpAll.mono e a)
  | _, _, .ins c h n a => .ins c (e _ _ h) n (RpAll.mono e a)
theorem RpAll.mono {T : Tb} {F F' : Hp} (e : Le F F') : ∀ {vs : List V} {ds : List D}, RpAll T F vs ds → RpAll T F' vs ds
  | _, _, .nil => .nil
  | _, _, .cons h t => .cons (Rp.mono e h) (RpAll.mono e t)
end
section
variable {T : Tb} {F : Hp}
theorem RpAll.length : ∀ {vs : List V} {ds : List D}, RpAll T F vs ds → vs.length = ds.length
  | _, _, .nil => rfl
  | _, _, .cons _ t => by rw [List.length_cons, List.length_cons, RpAll.length t]
theorem RpAll.append : ∀ {vs us : List V} {ds es : List D}, RpAll T F vs ds → RpAll T F us es → RpAll T F (vs ++ us) (ds ++ es)
  | _, _, _, _, .nil, h => h
  | _, _, _, _, .cons h t, q => .cons h (RpAll.append t q)
theorem RpAll.get : ∀ {vs : List V} {ds : List D} {i : Nat} {d : D}, RpAll T F vs ds → ds[i]? = some d → ∃ v, vs[i]? = some v ∧ Rp T F v d
  | _, _, _, _, .nil, e => by simp at e
  | _, _, 0, _, .cons h _, e => by simp at e; subst e; exact ⟨_, rfl, h⟩
  | _, _, i + 1, d, .cons _ t, e => by
    obtain ⟨v, h1, h2⟩ := RpAll.get (i := i) (d := d) t (by simpa using e)
    exact ⟨v, by simpa using h1, h2⟩
theorem RpAll.set {v : V} {d : D} (r : Rp T F v d) : ∀ {vs : List V} {ds : List D} (i : Nat), RpAll T F vs ds → RpAll T F (vs.set i v) (ds.set i d)
  | _, _, _, .nil => .nil
  | _, _, 0, .cons _ t => .cons r t
  | _, _, i + 1, .cons q t => .cons q (RpAll.set r i t)
theorem RpAll.take : ∀ {vs : List V} {ds : List D} (n : Nat), RpAll T F vs ds → RpAll T F (vs.take n) (ds.take n)
  | _, _, 0, _ => .nil
  | _, _, _ + 1, .nil => .nil
  | _, _, n + 1, .cons r t => .cons r (RpAll.take n t)
theorem RpAll.drop : ∀ {vs : List V} {ds : List D} (n : Nat), RpAll T F vs ds → RpAll T F (vs.drop n) (ds.drop n)
  | _, _, 0, r => r
  | _, _, _ + 1, .nil => .nil
  | _, _, n + 1, .cons _ t => RpAll.drop n t
theorem RpAll.one {v : V} {d : D} (h : Rp T F v d) : RpAll T F [v] [d] := .cons h .nil
theorem RpAll.reverse : ∀ {vs : List V} {ds : List D}, RpAll T F vs ds → RpAll T F vs.reverse ds.reverse
  | _, _, .nil => .nil
  | _, _, .cons h t => by
    rw [List.reverse_cons, List.reverse_cons]
    exact (RpAll.reverse t).append (.one h)
theorem RpAll.dropLast : ∀ {vs : List V} {ds : List D}, RpAll T F vs ds → RpAll T F vs.dropLast ds.dropLast := fun {vs ds} h => by
  rw [List.dropLast_eq_take, List.dropLast_eq_take, h.length]
  exact h.take _
end
inductive RpKV (T : Tb) (F : Hp) : List (Key × V) → List (Int × D) → Prop
  | nil : RpKV T F [] []
  | cons {k : Int} {v : V} {d : D} {ps : List (Key × V)} {kvs : List (Int × D)} : Rp T F v d → RpKV T F ps kvs → RpKV T F ((Sum.inl k, v) :: ps) ((k, d) :: kvs)
theorem RpKV.mono {T : Tb} {F F' : Hp} (e : Le F F') : ∀ {ps : List (Key × V)} {kvs : List (Int × D)}, RpKV T F ps kvs → RpKV T F' ps kvs
  | _, _, .nil => .nil
  | _, _, .cons h t => .cons (h.mono e) (RpKV.mono e t)
def NoTbl (o : HO) : Prop := ∀ ps, o ≠ .tbl ps
inductive FS where
  | d (x : D) | l (xs : List D) | t (ks xs : List D)
inductive Own where
  | ol (xs : List D)
  | od (kvs : List (Int × D))
  | ot (ks xs : List D)
  | oz
  | oll (rows : List (List D))
  | oi (c : Str) (fs : List (Str × FS))
inductive Slot where
  | emp | dat (d : D) | own (o : Own) | lent (o : Own)
abbrev Env := List Slot
def DctAt (T : Tb) (F H : Hp) (q : Addr) (ks xs : List D) : Prop := ∃ es ep, H q = some (DctO T.w q es ep) ∧ ks.map keyOf = es.map (fun e => some e.k) ∧ RpAll T F (es.map fun e => .ref e.b) ks ∧ RpAll T F (es.map (·.v)) xs
theorem DctAt.mono {T : Tb} {F F' H H' : Hp} {q : Addr} {ks xs : List D} (e : Le F F') (k : H' q = H q) (h : DctAt T F H q ks xs) : DctAt T F' H' q ks xs := by
  obtain ⟨es, ep, h1, h2, h3, h4⟩ := h
  exact ⟨es, ep, by rw [k]; exact h1, h2, h3.mono e, h4.mono e⟩
def FldAt (T : Tb) (F H : Hp) : List (Str × V) → List (Str × FS) → List Addr → Prop
  | [], [], qs => qs = []
  | (x, v) :: r, (y, .d d) :: s, qs => x = y ∧ Rp T F v d ∧ FldAt T F H r s qs
  | (x, v) :: r, (y, .l ds) :: s, qs => x = y ∧ ∃ q qs' vs, qs = q :: qs' ∧ v = .ref q ∧ H q = some (.lst vs) ∧ RpAll T F vs ds ∧ FldAt T F H r s qs'
  | (x, v) :: r, (y, .t ks xs) :: s, qs => x = y ∧ ∃ q qs', qs = q :: qs' ∧ v = .ref q ∧ DctAt T F H q ks xs ∧ FldAt T F H r s qs'
  | _, _, _ => False
def RowsAt (T : Tb) (F H : Hp) : List Addr → List (List D) → Prop
  | [], [] => True
  | q :: qs, xs :: r => (∃ vs, H q = some (.lst vs) ∧ RpAll T F vs xs) ∧ RowsAt T F H qs r
  | _, _ => False
theorem RowsAt.mono {T : Tb} {F F' H H' : Hp} (e : Le F F') : ∀ {qs : List Addr} {rows : List (List D)}, (∀ a ∈ qs, H' a = H a) → RowsAt T F H qs rows → RowsAt T F' H' qs rows
  | [], [], _, _ => True.intro
  | [], _ :: _, _, h => h.elim
  | _ :: _, [], _, h => h.elim
  | q :: qs, xs :: r, k, h => by
    obtain ⟨⟨vs, h1, h2⟩, h3⟩ := h
    refine ⟨⟨vs, by rw [k q (List.mem_cons_self ..)]; exact h1, h2.mono e⟩, RowsAt.mono e (fun a ha => k a (List.mem_cons_of_mem _ ha)) h3⟩
theorem RowsAt.lst {T : Tb} {F H : Hp} {a : Addr} : ∀ {qs : List Addr} {rows : List (List D)}, RowsAt T F H qs rows → a ∈ qs → ∃ vs, H a = some (.lst vs)
  | [], _, _, ha => by cases ha
  | _ :: _, [], h, _ => h.elim
  | q :: qs, xs :: r, h, ha => by
    obtain ⟨⟨vs, h1, h2⟩, h3⟩ := h
    rcases List.mem_cons.mp ha with z | z
    · rw [z]; exact ⟨vs, h1⟩
    · exact RowsAt.lst h3 z
def OwnAt (T : Tb) (F H : Hp) (p : Addr) : Own → List Addr → Prop
  | .ol xs, fp => fp = [p] ∧ ∃ vs, H p = some (.lst vs) ∧ RpAll T F vs xs
  | .od kvs, fp => fp = [p] ∧ ∃ ps, H p = some (.dK ps) ∧ RpKV T F ps kvs
  | .oz, fp => fp = []
  | .oll rows, fp => ∃ qs, fp = p :: qs ∧ fp.Nodup ∧ H p = some (.lst (qs.map .ref)) ∧ RowsAt T F H qs rows
  | .ot ks xs, fp => fp = [p] ∧ DctAt T F H p ks xs
  | .oi c fs, fp => ∃ C dx us qs, T.cls c = some C ∧ fp = p :: dx :: qs ∧ H p = some (.ins C dx us) ∧ H dx = some (.own p) ∧ FldAt T F H us fs qs ∧ qs.Nodup
def SlotAt (T : Tb) (F H : Hp) (x : Option (Option V)) : Slot → List Addr → Prop
  | .emp, fp => fp = []
  | .dat d, fp => fp = [] ∧ ∃ v, x = some (some v) ∧ Rp T F v d
  | .own o, fp => ∃ p, x = some (some (.ref p)) ∧ OwnAt T F H p o fp
  | .lent o, fp => ∃ p, x = some (some (.ref p)) ∧ OwnAt T F H p o fp
theorem FldAt.mono {T : Tb} {F F' H H' : Hp} (e : Le F F') : ∀ {us : List (Str × V)} {fs : List (Str × FS)} {qs : List Addr}, (∀ a ∈ qs, H' a = H a) → FldAt T F H us fs qs → FldAt T F' H' us fs qs
  | [], [], _, _, h => h
  | [], _ :: _, _, _, h => h.elim
  | _ :: _, [], _, _, h => h.elim
  | (x, v) :: r, (y, .d d) :: s, qs, k, h => ⟨h.1, h.2.1.mono e, FldAt.mono e k h.2.2⟩
  | (x, v) :: r, (y, .l ds) :: s, qs, k, h => by
    obtain ⟨h1, q, qs', vs, rfl, h2, h3, h4, h5⟩ := h
    refine ⟨h1, q, qs', vs, rfl, h2, ?_, h4.mono e, FldAt.mono e (fun a ha => k a (List.mem_cons_of_mem _ ha)) h5⟩
    rw [k q (List.mem_cons_self ..)]
    exact h3
  | (x, v) :: r, (y, .t ks xs) :: s, qs, k, h => by
    obtain ⟨h1, q, qs', rfl, h2, h3, h5⟩ := h
    exact ⟨h1, q, qs', rfl, h2, h3.mono e (k q (List.mem_cons_self ..)), FldAt.mono e (fun a ha => k a (List.mem_cons_of_mem _ ha)) h5⟩
theorem dctO_ne {w : World} {a c : Addr} {es : List Ent} {ep : Nat} {q : Str} : DctO w a es ep ≠ LamX.CodeO c q := fun e => by
  have e1 : (fun h : Heap => ∃ (o : Obj) (ar : Array DictEntry) (us : List Value), h.get? a = some o ∧ o.ExactDict ∧ o.data = .dict ar ep ∧ Vals (es.map (·.v)) us ∧
  ar.toList = (es.zip us).map (fun (q : Ent × Value) => (⟨entHash w q.1.k, .ref q.1.b, q.2⟩ : DictEntry)) ∧ (es.map (·.k)).Nodup ∧ es.length ≤ sizeLine ∧ (a == sysModules) = false ∧ ∀ e ∈ es, e.k.depth ≤ 8) = (fun h => ∃ (oc : Obj) (vs : Array Value) (t : Tok), h.get? c = some oc ∧ oc.data = .fields vs ∧ vs[1]? = some (.str q t)) := by
    unfold DctO LamX.CodeO at e
    injection e
  have hg : ∀ b o, (⟨Array.replicate (c + 1) ⟨.none, none, .fields #[.none, .str q 0], #[]⟩, {}⟩ : Heap).get? b = some o → o.data = .fields #[.none, .str q 0] := fun b o h => by
    unfold Heap.get? at h
    rw [Array.getElem?_replicate] at h
    by_cases hb : b < c + 1
    · rw [if_pos hb] at h
      cases h
      rfl
    · rw [if_neg hb] at h
      cases h
  have h2 : (⟨Array.replicate (c + 1) ⟨.none, none, .fields #[.none, .str q 0], #[]⟩, {}⟩ : Heap).get? c = some ⟨.none, none, .fields #[.none, .str q 0], #[]⟩ := by
    unfold Heap.get?
    rw [Array.getElem?_replicate, if_pos (Nat.lt_succ_self c)]
  have h3 := congrFun e1 (⟨Array.replicate (c + 1) ⟨.none, none, .fields #[.none, .str q 0], #[]⟩, {}⟩ : Heap)
  have h4 : ∃ (oc : Obj) (vs : Array Value) (t : Tok), (⟨Array.replicate (c + 1) ⟨.none, none, .fields #[.none, .str q 0], #[]⟩, {}⟩ : Heap).get? c = some oc ∧ oc.data = .fields vs ∧ vs[1]? = some (.str q t) := ⟨_, _, 0, h2, rfl, rfl⟩
  rw [← h3] at h4
  obtain ⟨o, ar, us, g1, g2, g3, _⟩ := h4
  rw [hg a o g1] at g3
  cases g3
def OwnK (o : HO) : Prop := (match o with
  | .lst _ | .dK _ | .ins _ _ _ | .own _ => True
  | _ => False) ∨ ∃ w a es ep, o = DctO w a es ep
theorem OwnK.notb {o : HO} (h : OwnK o) : NoTbl o := fun ps e => by
  rw [e] at h
  rcases h with h | ⟨w, a, es, ep, h⟩
  · exact h
  · cases h
theorem OwnK.notbl {ps : Array Value} (h : OwnK (.tbl ps)) : False := h.notb ps rfl
theorem OwnK.noext {c : Addr} {q : Str} (h : OwnK (LamX.CodeO c q)) : False := by
  rcases h with h | ⟨w, a, es, ep, h⟩
  · exact h
  · exact dctO_ne h.symm
theorem fldAt_kind {T : Tb} {F H : Hp} : ∀ {us : List (Str × V)} {fs : List (Str × FS)} {qs : List Addr} {a : Addr}, FldAt T F H us fs qs → a ∈ qs → ∃ u, H a = some u ∧ OwnK u
  | [], [], _, _, h, ha => by
    have e : _ = [] := h
    rw [e] at ha
    cases ha
  | [], _ :: _, _, _, h, _ => h.elim
  | _ :: _, [], _, _, h, _ => h.elim
  | (x, v) :: r, (y, .d d) :: s, qs, a, h, ha => fldAt_kind h.2.2 ha
  | (x, v) :: r, (y, .l ds) :: s, qs, a, h, ha => by
    obtain ⟨h1, q, qs', vs, rfl, h2, h3, h4, h5⟩ := h
    rcases List.mem_cons.mp ha with z | z
    · rw [z]
      exact ⟨_, h3, .inl True.intro⟩
    · exact fldAt_kind h5 z
  | (x, v) :: r, (y, .t ks xs) :: s, qs, a, h, ha => by
    obtain ⟨h1, q, qs', rfl, h2, ⟨es, ep, h3, _⟩, h5⟩ := h
    rcases List.mem_cons.mp ha with z | z
    · rw [z]
      exact ⟨_, h3, .inr ⟨_, _, _, _, rfl⟩⟩
    · exact fldAt_kind h5 z
theorem ownAt_kind {T : Tb} {F H : Hp} {p : Addr} {o : Own} {fp : List Addr} {a : Addr} (h : OwnAt T F H p o fp) (ha : a ∈ fp) : ∃ u, H a = some u ∧ OwnK u := by
  cases o with
  | ol xs =>
    obtain ⟨e, vs, q1, _⟩ := h
    rw [e] at ha
    rcases List.mem_cons.mp ha with z | z
    · rw [z]; exact ⟨_, q1, .inl True.intro⟩
    · cases z
  | od kvs =>
    obtain ⟨e, vs, q1, _⟩ := h
    rw [e] at ha
    rcases List.mem_cons.mp ha with z | z
    · rw [z]; exact ⟨_, q1, .inl True.intro⟩
    · cases z
  | oz =>
    have e : fp = [] := h
    rw [e] at ha
    cases ha
  | oll rows =>
    obtain ⟨qs, e, _, q1, q2⟩ := h
    rw [e] at ha
    rcases List.mem_cons.mp ha with z | z
    · rw [z]; exact ⟨_, q1, .inl True.intro⟩
    · obtain ⟨vs, h1⟩ := q2.lst z
      exact ⟨_, h1, .inl True.intro⟩
  | ot ks xs =>
    obtain ⟨e, es, ep, q1, _⟩ := h
    rw [e] at ha
    rcases List.mem_cons.mp ha with z | z
    · rw [z]; exact ⟨_, q1, .inr ⟨_, _, _, _, rfl⟩⟩
    · cases z
  | oi c fs =>
    obtain ⟨C, dx, us, qs, _, e, q1, q2, q3⟩ := h
    rw [e] at ha
    rcases List.mem_cons.mp ha with z | z
    · rw [z]; exact ⟨_, q1, .inl True.intro⟩
    · rcases List.mem_cons.mp z with z | z
      · rw [z]; exact ⟨_, q2, .inl True.intro⟩
      · exact fldAt_kind q3.1 z
theorem OwnAt.mono {T : Tb} {F F' H H' : Hp} {p : Addr} {o : Own} {fp : List Addr} (e : Le F F') (k : ∀ a ∈ fp, H' a = H a) (h : OwnAt T F H p o fp) : OwnAt T F' H' p o fp := by
  cases o with
  | ol xs =>
    obtain ⟨rfl, vs, h1, h2⟩ := h
    exact ⟨rfl, vs, by rw [k p (List.mem_cons_self ..)]; exact h1, h2.mono e⟩
  | od kvs =>
    obtain ⟨rfl, us, h1, h2⟩ := h
    exact ⟨rfl, us, by rw [k p (List.mem_cons_self ..)]; exact h1, h2.mono e⟩
  | oz => exact h
  | oll rows =>
    obtain ⟨qs, rfl, nd, h1, h2⟩ := h
    exact ⟨qs, rfl, nd, by rw [k p (List.mem_cons_self ..)]; exact h1, h2.mono e fun a ha => k a (List.mem_cons_of_mem _ ha)⟩
  | ot ks xs =>
    obtain ⟨rfl, h1⟩ := h
    exact ⟨rfl, h1.mono e (k p (List.mem_cons_self ..))⟩
  | oi c fs =>
    obtain ⟨C, dx, us, qs, h0, rfl, h1, h2, h3⟩ := h
    refine ⟨C, dx, us, qs, h0, rfl, ?_, ?_, h3.1.mono e fun a ha => k a (List.mem_cons_of_mem _ (List.mem_cons_of_mem _ ha)), h3.2⟩
    · rw [k p (List.mem_cons_self ..)]
      exact h1
    · rw [k dx (List.mem_cons_of_mem _ (List.mem_cons_self ..))]
      exact h2
theorem SlotAt.mono {T : Tb} {F F' H H' : Hp} {x : Option (Option V)} {s : Slot} {fp : List Addr} (e : Le F F') (k : ∀ a ∈ fp, H' a = H a) (h : SlotAt T F H x s fp) : SlotAt T F' H' x s fp := by
  cases s with
  | emp => exact h
  | dat d => exact ⟨h.1, h.2.choose, h.2.choose_spec.1, h.2.choose_spec.2.mono e⟩
  | own o =>
    obtain ⟨p, h1, h2⟩ := h
    exact ⟨p, h1, h2.mono e k⟩
  | lent o =>
    obtain ⟨p, h1, h2⟩ := h
    exact ⟨p, h1, h2.mono e k⟩
structure Gd where
  T : Tb
  H0 : Hp
  F0 : Hp
  OA : List Addr
  V0 : L2.St
structure TabsX (L : List (Addr × Str)) (H : Hp) : Prop where
  tabs : LamX.Tabs L H
  only : ∀ a ps, H a = some (.tbl ps) → True
theorem TabsX.ext {L : List (Addr × Str)} {H H' : Hp} (h : TabsX L H) (k : ∀ b u, H b = some u → H' b = some u) (n : ∀ b ps, H' b = some (.tbl ps) → H b = some (.tbl ps)) : TabsX L H' := ⟨h.tabs.ext k, fun a ps e => h.only a ps (n a ps e)⟩
theorem upd_tbl {H : Hp} {p b : Addr} {o : HO} {ps : Array Value} (n : NoTbl o) (e : upd H p o b = some (.tbl ps)) : H b = some (.tbl ps) := by
  by_cases z : b = p
  · rw [z, upd_same] at e
    cases e
    exact absurd rfl (n ps)
  · rw [upd_ne z] at e
    exact e
structure SR (S : Gd) (σ : L2.St) (H F : Hp) (env : Env) (ad : Nat → List Addr) : Prop where
  len : σ.length = env.length
  sub : Le F H
  at_ : ∀ (i : Nat) (s : Slot), env[i]? = some s → SlotAt S.T F H σ[i]? s (ad i)
  out : ∀ i, env.length ≤ i → ad i = []
  dis : ∀ i j a, a ∈ ad i → a ∈ ad j → i = j
  mine : ∀ i a, a ∈ ad i → F a = none ∧ (S.H0 a = none ∨ a ∈ S.OA)
  keep : ∀ a o, a ∉ S.OA → S.H0 a = some o → NoTbl o → H a = some o
  tab : TabsX S.T.tabs H
  notb : ∀ a o, F a = some o → NoTbl o
  old : ∀ a o, F a = some o → S.F0 a = some o ∨ S.H0 a = none ∨ a ∈ S.OA
  le0 : Le S.F0 F
  dom : ∀ a, H a = none → S.H0 a = none
  fix : ∀ (i : Nat) (o : Own), env[i]? = some (Slot.lent o) → σ[i]? = S.V0[i]?
section
variable {S : Gd} {σ : L2.St} {H F : Hp} {env : Env} {ad : Nat → List Addr}
def setA (ad : Nat → List Addr) (i : Nat) (fp : List Addr) : Nat → List Addr := fun j => if j = i then fp else ad j
theorem setA_same {i : Nat} {fp : List Addr} : setA ad i fp i = fp := by unfold setA; rw [if_pos rfl]
theorem setA_ne {i j : Nat} {fp : List Addr} (h : j ≠ i) : setA ad i fp j = ad j := by unfold setA; rw [if_neg h]
theorem get_set_same {α : Type} {l : List α} {i : Nat} {x y : α} (h : (l.set i x)[i]? = some y) : y = x := by
  rw [List.getElem?_set] at h
  simp only [if_true] at h
  split at h
  · exact (Option.some.inj h).symm
  · cases h
theorem get_set_ne {α : Type} {l : List α} {i j : Nat} {x : α} (h : j ≠ i) : (l.set i x)[j]? = l[j]? := by
  rw [List.getElem?_set]
  rw [if_neg (fun e => h e.symm)]
theorem get_set_lt {α : Type} {l : List α} {i : Nat} {x : α} (h : i < l.length) : (l.set i x)[i]? = some x := by
  rw [List.getElem?_set]
  simp [h]
theorem SR.lt (h : SR S σ H F env ad) {i : Nat} {s : Slot} (e : env[i]? = some s) : i < σ.length := by
  rw [h.len]
  exact (List.getElem?_eq_some_iff.mp e).1
theorem SR.kind (h : SR S σ H F env ad) {i : Nat} {a : Addr} (hi : a ∈ ad i) : ∃ u, H a = some u ∧ OwnK u := by
  have hlt : i < env.length := by
    apply Nat.lt_of_not_le
    intro z
    rw [h.out i z] at hi
    cases hi
  have q := h.at_ i _ (List.getElem?_eq_getElem hlt)
  generalize env[i] = s at q
  cases s with
  | emp =>
    have q2 : ad i = [] := q
    rw [q2] at hi
    cases hi
  | dat d =>
    rw [q.1] at hi
    cases hi
  | own ow =>
    obtain ⟨b, _, q⟩ := q
    exact ownAt_kind q hi
  | lent ow =>
    obtain ⟨b, _, q⟩ := q
    exact ownAt_kind q hi
theorem SR.somes (h : SR S σ H F env ad) {i : Nat} {a : Addr} (hi : a ∈ ad i) : H a ≠ none := by
  obtain ⟨u, e, _⟩ := h.kind hi
  rw [e]
  exact fun z => by cases z
theorem SR.fnone (h : SR S σ H F env ad) {p : Addr} (hp : H p = none) : F p = none := by
  cases q : F p with
  | none => rfl
  | some u => rw [h.sub p u q] at hp; cases hp
theorem SR.alloc (h : SR S σ H F env ad) {p : Addr} {o : HO} (hp : H p = none) (ho : NoTbl o) : SR S σ (upd H p o) (upd F p o) env ad ∧ Le F (upd F p o) := by
  have fp : F p = none := h.fnone hp
  have le : Le F (upd F p o) := Le.new fp
  have np : ∀ i a, a ∈ ad i → a ≠ p := fun i a hi z => h.somes hi (z ▸ hp)
  refine ⟨⟨h.len, ?_, fun i s e => (h.at_ i s e).mono le fun a ha => upd_ne (np i a ha), h.out, h.dis, fun i a ha => ?_, fun a u na e nt => ?_, h.tab.ext (fun b u e => ?_) (fun b ps e => upd_tbl ho e), fun a u e => ?_, fun a u e => ?_, h.le0.trans le, fun a e => ?_, h.fix⟩, le⟩
  · intro a u e
    by_cases z : a = p
    · rw [z, upd_same] at e ⊢
      exact e
    · rw [upd_ne z] at e ⊢
      exact h.sub a u e
  · obtain ⟨m1, m2⟩ := h.mine i a ha
    exact ⟨by rw [upd_ne (np i a ha)]; exact m1, m2⟩
  · have q := h.keep a u na e nt
    rw [upd_ne (ne_of_none q hp)]
    exact q
  · rw [upd_ne (ne_of_none e hp)]
    exact e
  · by_cases z : a = p
    · rw [z, upd_same] at e
      cases e
      exact ho
    · rw [upd_ne z] at e
      exact h.notb a u e
  · by_cases z : a = p
    · rw [z]
      exact .inr (.inl (h.dom p hp))
    · rw [upd_ne z] at e
      exact h.old a u e
  · by_cases z : a = p
    · rw [z, upd_same] at e
      cases e
    · rw [upd_ne z] at e
      exact h.dom a e
theorem SR.more (h : SR S σ H F env ad) {p : Addr} {o : HO} (hp : H p = none) (ho : NoTbl o := by exact fun _ z => by cases z) : SR S σ (upd H p o) F env ad := by
  have np : ∀ i a, a ∈ ad i → a ≠ p := fun i a hi z => h.somes hi (z ▸ hp)
  refine ⟨h.len, fun a u e => ?_, fun i s e => (h.at_ i s e).mono (Le.refl F) fun a ha => upd_ne (np i a ha), h.out, h.dis, h.mine, fun a u na e nt => ?_, h.tab.ext (fun b u e => ?_) (fun b ps e => upd_tbl ho e), h.notb, h.old, h.le0, fun a e => ?_, h.fix⟩
  · have q := h.sub a u e
    rw [upd_ne (ne_of_none q hp)]
    exact q
  · have q := h.keep a u na e nt
    rw [upd_ne (ne_of_none q hp)]
    exact q
  · rw [upd_ne (ne_of_none e hp)]
    exact e
  · by_cases z : a = p
    · rw [z, upd_same] at e
      cases e
    · rw [upd_ne z] at e
      exact h.dom a e
def isLent : Slot → Bool
  | .lent _ => true
  | _ => false
theorem SR.put (h : SR S σ H F env ad) (i : Nat) (x : Option V) (s : Slot) (fp : List Addr) (nl : isLent s = false) (hs : i < env.length → SlotAt S.T F H (some x) s fp) (ho : env.length ≤ i → fp = []) (hd : ∀ j a, j ≠ i → a ∈ fp → a ∉ ad j) (hm : ∀ a ∈ fp, F a = none ∧ (S.H0 a = none ∨ a ∈ S.OA)) :
    SR S (σ.set i x) H F (env.set i s) (setA ad i fp) := by
  refine ⟨by rw [List.length_set, List.length_set, h.len], h.sub, fun j t e => ?_, fun j hj => ?_, fun j k a hj hk => ?_, fun j a hj => ?_, h.keep, h.tab, h.notb, h.old, h.le0, h.dom, fun j o e => ?_⟩
  · by_cases z : j = i
    · subst z
      have lt : j < env.length := by
        have q := (List.getElem?_eq_some_iff.mp e).1
        rwa [List.length_set] at q
      rw [get_set_same e, setA_same, get_set_lt (by rw [h.len]; exact lt)]
      exact hs lt
    · rw [get_set_ne z] at e
      rw [setA_ne z, get_set_ne z]
      exact h.at_ j t e
  · rw [List.length_set] at hj
    by_cases z : j = i
    · subst z
      rw [setA_same]
      exact ho hj
    · rw [setA_ne z]
      exact h.out j hj
  · by_cases z : j = i
    · by_cases y : k = i
      · rw [z, y]
      · rw [z, setA_same] at hj
        rw [setA_ne y] at hk
        exact absurd hk (hd k a y hj)
    · by_cases y : k = i
      · rw [setA_ne z] at hj
        rw [y, setA_same] at hk
        exact absurd hj (hd j a z hk)
      · rw [setA_ne z] at hj
        rw [setA_ne y] at hk
        exact h.dis j k a hj hk
  · by_cases z : j = i
    · rw [z, setA_same] at hj
      exact hm a hj
    · rw [setA_ne z] at hj
      exact h.mine j a hj
  · by_cases z : j = i
    · subst z
      rw [← get_set_same e] at nl
      cases nl
    · rw [get_set_ne z] at e ⊢
      exact h.fix j o e
theorem SR.store (h : SR S σ H F env ad) (i : Nat) {v : V} {d : D} (r : Rp S.T F v d) : SR S (σ.set i (some v)) H F (env.set i (.dat d)) (setA ad i []) :=
  h.put i (some v) (.dat d) [] rfl (fun _ => ⟨rfl, v, rfl, r⟩) (fun _ => rfl) (fun _ _ _ z => by cases z) (fun _ z => by cases z)
theorem SR.drop (h : SR S σ H F env ad) (i : Nat) (x : Option V) : SR S (σ.set i x) H F (env.set i .emp) (setA ad i []) :=
  h.put i x .emp [] rfl (fun _ => rfl) (fun _ => rfl) (fun _ _ _ z => by cases z) (fun _ z => by cases z)
theorem set_self {α : Type} : ∀ {l : List α} {i : Nat} {x : α}, l[i]? = some x → l.set i x = l
  | [], _, _, e => by simp at e
  | y :: l, 0, x, e => by simp at e; rw [e]; rfl
  | y :: l, i + 1, x, e => by
    show y :: l.set i x = y :: l
    rw [set_self (by simpa using e)]
def Slot.ow : Slot → Option Own
  | .own o | .lent o => some o
  | _ => none
def Slot.re : Slot → Own → Slot
  | .lent _, o => .lent o
  | _, o => .own o
theorem SlotAt.ow {T : Tb} {x : Option (Option V)} {s : Slot} {o : Own} {fp : List Addr} (h : SlotAt T F H x s fp) (e : s.ow = some o) : ∃ p, x = some (some (.ref p)) ∧ OwnAt T F H p o fp := by
  cases s with
  | emp => cases e
  | dat d => cases e
  | own o' => cases e; exact h
  | lent o' => cases e; exact h
theorem SlotAt.re {T : Tb} {x : Option (Option V)} {s : Slot} {o : Own} {fp : List Addr} {p : Addr} (hx : x = some (some (.ref p))) (h : OwnAt T F H p o fp) : SlotAt T F H x (s.re o) fp := by
  cases s with
  | emp => exact ⟨p, hx, h⟩
  | dat d => exact ⟨p, hx, h⟩
  | own o' => exact ⟨p, hx, h⟩
  | lent o' => exact ⟨p, hx, h⟩
theorem SR.mut (h : SR S σ H F env ad) {i : Nat} {s : Slot} {o' : Own} {p : Addr} {H' : Hp} (hs : env[i]? = some s) (hp : σ[i]? = some (some (.ref p))) (k : ∀ a, a ∉ ad i → H' a = H a) (hn : ∀ a, H' a = none → H a = none)
    (new : OwnAt S.T F H' p o' (ad i)) : SR S σ H' F (env.set i (s.re o')) ad := by
  refine ⟨by rw [List.length_set, h.len], fun a u e => ?_, fun j t e => ?_, fun j hj => ?_, h.dis, h.mine, fun a u na e nt => ?_, ⟨fun q hq => ?_, fun a ps e => h.tab.only a ps ?_⟩, h.notb, h.old, h.le0, fun a e => h.dom a (hn a e), fun j o e => ?_⟩
  · rw [k a fun z => by rw [(h.mine i a z).1] at e; cases e]
    exact h.sub a u e
  · by_cases z : j = i
    · subst z
      rw [get_set_same e]
      exact SlotAt.re hp new
    · rw [get_set_ne z] at e
      exact (h.at_ j t e).mono (Le.refl F) fun a ha => k a fun y => z (h.dis j i a ha y)
  · rw [List.length_set] at hj
    exact h.out j hj
  · have q := h.keep a u na e nt
    rw [k a fun z => ?_]
    · exact q
    · rcases (h.mine i a z).2 with y | y
      · rw [e] at y; cases y
      · exact na y
  · obtain ⟨ps, t1, t2, t3⟩ := h.tab.tabs q hq
    refine ⟨ps, ?_, t2, fun pos cv hc => ?_⟩
    · rw [k q.1 fun z => ?_]
      · exact t1
      · obtain ⟨u, e1, e2⟩ := h.kind z
        rw [t1] at e1
        cases e1
        exact e2.notbl
    · obtain ⟨c, e1, e2⟩ := t3 pos cv hc
      refine ⟨c, e1, ?_⟩
      rw [k c fun z => ?_]
      · exact e2
      · obtain ⟨u, f1, f2⟩ := h.kind z
        rw [e2] at f1
        cases f1
        exact f2.noext
  · rw [← k a fun z => ?_]
    · exact e
    · obtain ⟨u, f1, f2⟩ := ownAt_kind new z
      rw [e] at f1
      cases f1
      exact f2.notbl
  · by_cases z : j = i
    · subst z
      have e1 := get_set_same e
      cases s with
      | lent o2 => exact h.fix j o2 hs
      | _ => cases e1
    · rw [get_set_ne z] at e
      exact h.fix j o e
theorem SR.frz (h : SR S σ H F env ad) {i : Nat} {v : V} {d : D} (hv : σ[i]? = some (some v)) (hl : ∀ s, env[i]? = some s → isLent s = false) (r : Rp S.T (fun a => if a ∈ ad i then H a else F a) v d) :
    SR S σ H (fun a => if a ∈ ad i then H a else F a) (env.set i (.dat d)) (setA ad i []) ∧ Le F (fun a => if a ∈ ad i then H a else F a) := by
  have le : Le F (fun a => if a ∈ ad i then H a else F a) := fun a u e => by
    have n : a ∉ ad i := fun z => by rw [(h.mine i a z).1] at e; cases e
    show (if a ∈ ad i then H a else F a) = some u
    rw [if_neg n]
    exact e
  have h1 : SR S σ H (fun a => if a ∈ ad i then H a else F a) (env.set i .emp) (setA ad i []) := by
    have e0 : σ.set i (some v) = σ := set_self hv
    have h0 := h.drop i (some v)
    rw [e0] at h0
    refine ⟨h0.len, fun a u e => ?_, fun j s e => (h0.at_ j s e).mono le fun _ _ => rfl, h0.out, h0.dis, fun j a ha => ?_, h0.keep, h0.tab, fun a u e => ?_, fun a u e => ?_, h.le0.trans le, h0.dom, h0.fix⟩
    · have e2 : (if a ∈ ad i then H a else F a) = some u := e
      by_cases z : a ∈ ad i
      · rw [if_pos z] at e2; exact e2
      · rw [if_neg z] at e2; exact h.sub a u e2
    · refine ⟨?_, (h0.mine j a ha).2⟩
      show (if a ∈ ad i then H a else F a) = none
      by_cases z : j = i
      · rw [z, setA_same] at ha; cases ha
      · rw [setA_ne z] at ha
        rw [if_neg fun y => z (h.dis j i a ha y)]
        exact (h.mine j a ha).1
    · have e2 : (if a ∈ ad i then H a else F a) = some u := e
      by_cases z : a ∈ ad i
      · rw [if_pos z] at e2
        obtain ⟨w, e3, e4⟩ := h.kind z
        rw [e2] at e3
        cases e3
        exact e4.notb
      · rw [if_neg z] at e2; exact h.notb a u e2
    · have e2 : (if a ∈ ad i then H a else F a) = some u := e
      by_cases z : a ∈ ad i
      · exact .inr ((h.mine i a z).2)
      · rw [if_neg z] at e2; exact h.old a u e2
  have h2 := h1.store i r
  have e0 : σ.set i (some v) = σ := set_self hv
  rw [e0, List.set_set] at h2
  have e3 : setA (setA ad i []) i [] = setA ad i [] := by
    funext j
    unfold setA
    split <;> rfl
  rw [e3] at h2
  exact ⟨h2, le⟩
def FS.dat : FS → D
  | .d x => x
  | .l xs => .lst xs
  | .t ks xs => .dct ks xs
def Own.dat? : Own → Option D
  | .ol xs => some (.lst xs)
  | .od _ => none
  | .oz => none
  | .oll rows => some (.lst (rows.map .lst))
  | .ot ks xs => some (.dct ks xs)
  | .oi c fs => some (.ins c (fs.map (·.1)) (fs.map (·.2.dat)))
theorem fld_rp {T : Tb} {F G H : Hp} (le : Le F G) : ∀ {us : List (Str × V)} {fs : List (Str × FS)} {qs : List Addr}, FldAt T F H us fs qs → (∀ a ∈ qs, G a = H a) → us.map (·.1) = fs.map (·.1) ∧ RpAll T G (us.map (·.2)) (fs.map (·.2.dat))
  | [], [], _, h, _ => ⟨rfl, .nil⟩
  | [], _ :: _, _, h, _ => h.elim
  | _ :: _, [], _, h, _ => h.elim
  | (x, v) :: r, (y, .d d) :: s, qs, h, k => by
    obtain ⟨h1, h2, h3⟩ := h
    obtain ⟨q1, q2⟩ := fld_rp le h3 k
    refine ⟨?_, .cons (h2.mono le) q2⟩
    rw [List.map_cons, List.map_cons, q1, h1]
  | (x, v) :: r, (y, .l ds) :: s, qs, h, k => by
    obtain ⟨h1, q, qs', vs, rfl, h2, h3, h4, h5⟩ := h
    obtain ⟨q1, q2⟩ := fld_rp le h5 fun a ha => k a (List.mem_cons_of_mem _ ha)
    refine ⟨?_, .cons ?_ q2⟩
    · rw [List.map_cons, List.map_cons, q1, h1]
    · rw [h2]
      exact .lst (by rw [k q (List.mem_cons_self ..)]; exact h3) (h4.mono le)
  | (x, v) :: r, (y, .t ks xs) :: s, qs, h, k => by
    obtain ⟨h1, q, qs', rfl, h2, ⟨es, ep, h3, g1, g2, g3⟩, h5⟩ := h
    obtain ⟨q1, q2⟩ := fld_rp le h5 fun a ha => k a (List.mem_cons_of_mem _ ha)
    refine ⟨?_, .cons ?_ q2⟩
    · rw [List.map_cons, List.map_cons, q1, h1]
    · rw [h2]
      exact .dct (by rw [k q (List.mem_cons_self ..)]; exact h3) g1 (g2.mono le) (g3.mono le)
theorem rows_rp {T : Tb} {F G H : Hp} (le : Le F G) : ∀ {qs : List Addr} {rows : List (List D)}, RowsAt T F H qs rows → (∀ a ∈ qs, G a = H a) → RpAll T G (qs.map .ref) (rows.map .lst)
  | [], [], _, _ => .nil
  | [], _ :: _, h, _ => h.elim
  | _ :: _, [], h, _ => h.elim
  | q :: qs, xs :: r, h, k => by
    obtain ⟨⟨vs, h1, h2⟩, h3⟩ := h
    exact .cons (.lst (by rw [k q (List.mem_cons_self ..)]; exact h1) (h2.mono le)) (rows_rp le h3 fun a ha => k a (List.mem_cons_of_mem _ ha))
theorem own_rp {T : Tb} {F G H : Hp} {p : Addr} {o : Own} {d : D} {fp : List Addr} (le : Le F G) (h : OwnAt T F H p o fp) (k : ∀ a ∈ fp, G a = H a) (e : o.dat? = some d) : Rp T G (.ref p) d := by
  cases o with
  | ol xs =>
    cases e
    obtain ⟨rfl, vs, h1, h2⟩ := h
    exact .lst (by rw [k p (List.mem_cons_self ..)]; exact h1) (h2.mono le)
  | od kvs => cases e
  | oz => cases e
  | oll rows =>
    cases e
    obtain ⟨qs, rfl, nd, h1, h2⟩ := h
    exact .lst (by rw [k p (List.mem_cons_self ..)]; exact h1) (rows_rp le h2 fun a ha => k a (List.mem_cons_of_mem _ ha))
  | ot ks xs =>
    cases e
    obtain ⟨rfl, es, ep, h3, g1, g2, g3⟩ := h
    exact .dct (by rw [k p (List.mem_cons_self ..)]; exact h3) g1 (g2.mono le) (g3.mono le)
  | oi c fs =>
    cases e
    obtain ⟨C, dx, us, qs, h0, rfl, h1, h2, h3⟩ := h
    obtain ⟨q1, q2⟩ := fld_rp le h3.1 fun a ha => k a (List.mem_cons_of_mem _ (List.mem_cons_of_mem _ ha))
    exact .ins h0 (by rw [k p (List.mem_cons_self ..)]; exact h1) q1 q2
theorem SR.freeze (h : SR S σ H F env ad) {i : Nat} {o : Own} {d : D} (hs : env[i]? = some (.own o)) (e : o.dat? = some d) : ∃ p F' ad', σ[i]? = some (some (.ref p)) ∧ SR S σ H F' (env.set i (.dat d)) ad' ∧ Le F F' ∧ Rp S.T F' (.ref p) d := by
  obtain ⟨p, hp, ha⟩ := h.at_ i _ hs
  have hl : ∀ s, env[i]? = some s → isLent s = false := fun s e => by
    rw [hs] at e
    cases e
    rfl
  have le : Le F (fun a => if a ∈ ad i then H a else F a) := fun a u e => by
    have n : a ∉ ad i := fun z => by rw [(h.mine i a z).1] at e; cases e
    show (if a ∈ ad i then H a else F a) = some u
    rw [if_neg n]
    exact e
  have r : Rp S.T (fun a => if a ∈ ad i then H a else F a) (.ref p) d := own_rp le ha (fun a ha => if_pos ha) e
  obtain ⟨h2, _⟩ := h.frz hp hl r
  exact ⟨p, _, _, hp, h2, le, r⟩
end
end DL
set_option Elab.async false
set_option linter.all false
set_option maxRecDepth 100000
set_option maxHeartbeats 2000000
namespace DL
open PySem PySem.Spec PyProof.Rows L2
inductive Res (α : Type) where
  | ok (a : α) (e : Env) | exc (c : Str) (e : Env) | bad
def Res.bind {α β : Type} : Res α → (α → Env → Res β) → Res β
  | .ok a e, f => f a e
  | .exc c e, _ => .exc c e
  | .bad, _ => .bad
def lift {α : Type} (o : Option α) (e : Env) : Res α := match o with
  | some a => .ok a e
  | none => .bad
abbrev M (α : Type) := Env → Res α
def Post {α : Type} (S : Gd) (W : WX) (σ : L2.St) (F : Hp) (r : Res α) (K : α → Env → Hp → Hp → (Nat → List Addr) → Prop) : Prop := match r with
  | .ok a env' => ∀ H' F' ad', Le F F' → SR S σ H' F' env' ad' → K a env' H' F' ad'
  | .exc c env' => ∀ C H' F' ad', S.T.exc c = some C → Le F F' → SR S σ H' F' env' ad' → W (.ref C) none σ H'
  | .bad => False
section
variable {α β : Type} {S : Gd} {W : WX} {σ : L2.St} {F : Hp}
theorem Post.bind {r : Res α} {f : α → Env → Res β} {K : β → Env → Hp → Hp → (Nat → List Addr) → Prop} (h : Post S W σ F (r.bind f) K) :
    Post S W σ F r fun a env' H' F' ad' => Le F F' ∧ Post S W σ F' (f a env') K := by
  cases r with
  | ok a e =>
    intro H' F' ad' le sr
    refine ⟨le, ?_⟩
    have h2 : Post S W σ F (f a e) K := h
    generalize f a e = q at h2
    cases q with
    | ok b e2 => exact fun H2 F2 ad2 le2 sr2 => h2 H2 F2 ad2 (le.trans le2) sr2
    | exc c e2 => exact fun C H2 F2 ad2 hc le2 sr2 => h2 C H2 F2 ad2 hc (le.trans le2) sr2
    | bad => exact h2
  | exc c e => exact h
  | bad => exact h
theorem Post.imp {r : Res α} {K K' : α → Env → Hp → Hp → (Nat → List Addr) → Prop} (h : Post S W σ F r K) (i : ∀ a e H' F' ad', Le F F' → SR S σ H' F' e ad' → K a e H' F' ad' → K' a e H' F' ad') : Post S W σ F r K' := by
  cases r with
  | ok a e => exact fun H' F' ad' le sr => i a e H' F' ad' le sr (h H' F' ad' le sr)
  | exc c e => exact h
  | bad => exact h
theorem Post.lift {o : Option α} {e : Env} {K : α → Env → Hp → Hp → (Nat → List Addr) → Prop} (h : Post S W σ F (lift o e) K) : ∃ a, o = some a ∧ ∀ H' F' ad', Le F F' → SR S σ H' F' e ad' → K a e H' F' ad' := by
  cases o with
  | none => exact h.elim
  | some a => exact ⟨a, rfl, h⟩
end
def tD (S : Gd) (W : WX) (m : M D) : TE := fun σ H Q => ∃ F env ad, SR S σ H F env ad ∧ Post S W σ F (m env) fun d _ H' F' _ => ∀ v, Rp S.T F' v d → Q v H'
def tW (S : Gd) (W : WX) (m : M D) : TE := fun σ H Q => ∃ F env ad, SR S σ H F env ad ∧ Post S W σ F (m env) fun d _ H' F' _ => ∀ v, Rp S.T H' v d → Q v H'
def tT (S : Gd) (W : WX) (m : M Bool) : TT := fun σ H Q => ∃ F env ad, SR S σ H F env ad ∧ Post S W σ F (m env) fun b _ H' _ _ => Q b H'
def tL (S : Gd) (W : WX) (m : M (List D)) : TA := fun σ H Q => ∃ F env ad, SR S σ H F env ad ∧ Post S W σ F (m env) fun ds _ H' F' _ => ∀ vs, RpAll S.T F' vs ds → Q vs H'
theorem PE.imp {X : Cx} {e : Expr} {t t' : TE} (h : PE X e t) (i : ∀ σ H Q, t' σ H Q → t σ H Q) : PE X e t' := ⟨fun pins s σ H Q I q => h.run pins s σ H Q I (i σ H Q q)⟩
theorem PT.imp {X : Cx} {e : Expr} {t t' : TT} (h : PT X e t) (i : ∀ σ H Q, t' σ H Q → t σ H Q) : PT X e t' := ⟨fun pins s σ H Q I q => h.run pins s σ H Q I (i σ H Q q)⟩
theorem PW.imp {X : Cx} {e : Expr} {t t' : TT} (h : PW X e t) (i : ∀ σ H Q, t' σ H Q → t σ H Q) : PW X e t' := ⟨fun whole pins s σ H Q I q => h.run whole pins s σ H Q I (i σ H Q q)⟩
theorem PA.imp {X : Cx} {es : List Expr} {t t' : TA} (h : PA X es t) (i : ∀ σ H Q, t' σ H Q → t σ H Q) : PA X es t' := ⟨fun pos pins s σ H Q I q => h.run pos pins s σ H Q I (i σ H Q q)⟩
theorem PS.imp {X : Cx} {e : Stmt} {t t' : TS} (h : PS X e t) (i : ∀ d σ H, t' d σ H → t d σ H) : PS X e t' := ⟨fun pins s σ H D I q => h.run pins s σ H D I (i D σ H q)⟩
theorem PSs.imp {X : Cx} {e : List Stmt} {t t' : TS} (h : PSs X e t) (i : ∀ d σ H, t' d σ H → t d σ H) : PSs X e t' := ⟨fun pins s σ H D I q => h.run pins s σ H D I (i D σ H q)⟩
section
variable {X : Cx} {S : Gd} {W : WX} {e a b : Expr} {pos : Pos} {m ma mb : M D}
theorem de_w (h : PE X e (tD S W m)) : PE X e (tW S W m) := PE.imp h fun σ H Q ⟨F, env, ad, sr, p⟩ => ⟨F, env, ad, sr, p.imp fun d e H' F' ad' _ sr' k v r => k v (r.mono sr'.sub)⟩
def eC (d : D) : M D := fun env => .ok d env
def eVar (i : Nat) : M D := fun env => match env[i]? with
  | some (.dat d) => .ok d env
  | some (.own o) => (match o.dat? with
    | some d => .ok d (env.set i (.dat d))
    | none => .bad)
  | _ => .bad
def wVar (i : Nat) : M D := fun env => match env[i]? with
  | some (.dat d) => .ok d env
  | some (.own o) => lift o.dat? env
  | some (.lent o) => lift o.dat? env
  | _ => .bad
theorem de_c {v : V} {d : D} (h : PE X e (tC v)) (r : ∀ F, Rp S.T F v d) : PE X e (tD S W (eC d)) := PE.imp h fun σ H Q ⟨F, env, ad, sr, p⟩ => p H F ad (Le.refl F) sr v (r F)
theorem de_int {i : Int} {j : Nat} : PE X (.Constant (.int i) j pos) (tD S W (eC (.int i))) := de_c pe_int fun _ => .int i
theorem de_str {x : Str} {j : Nat} : PE X (.Constant (.str x) j pos) (tD S W (eC (.str x))) := de_c pe_str fun _ => .str x
theorem de_bl {b : Bool} {j : Nat} : PE X (.Constant (.bool b) j pos) (tD S W (eC (.bl b))) := de_c pe_bl fun _ => .bl b
theorem de_non {j : Nat} : PE X (.Constant .none j pos) (tD S W (eC .non)) := de_c pe_non fun _ => .non
theorem de_gint {x : Str} {i : Int} (hg : Gl X x) (hm : ∃ t, X.mg x = some (.int i t)) (hd : (x == ("__debug__" : Str)) = false := by decide) : PE X (.Name x pos) (tD S W (eC (.int i))) := by
  obtain ⟨t, hm⟩ := hm
  exact de_c (pe_glob (v := .int i) hg hm ⟨t, rfl⟩ hd) fun _ => .int i
theorem de_gstr {x z : Str} (hg : Gl X x) (hm : ∃ t, X.mg x = some (.str z t)) (hd : (x == ("__debug__" : Str)) = false := by decide) : PE X (.Name x pos) (tD S W (eC (.str z))) := by
  obtain ⟨t, hm⟩ := hm
  exact de_c (pe_glob (v := .str z) hg hm ⟨t, rfl⟩ hd) fun _ => .str z
theorem de_pv (i : Nat) (h : PE X e (tVar i)) : PE X e (tD S W (eVar i)) := PE.imp h fun σ H Q ⟨F, env, ad, sr, p⟩ => by
  unfold eVar at p
  cases q : env[i]? with
  | none => rw [q] at p; exact p.elim
  | some s =>
    rw [q] at p
    cases s with
    | emp => exact p.elim
    | lent o => exact p.elim
    | dat d =>
      obtain ⟨_, v, e1, e2⟩ := sr.at_ i _ q
      exact ⟨v, e1, p H F ad (Le.refl F) sr v e2⟩
    | own o =>
      cases q2 : o.dat? with
      | none =>
        have p2 : Post S W σ F (match o.dat? with | some d => .ok d (env.set i (.dat d)) | none => .bad) _ := p
        rw [q2] at p2
        exact p2.elim
      | some d =>
        have p2 : Post S W σ F (match o.dat? with | some d => .ok d (env.set i (.dat d)) | none => .bad) _ := p
        rw [q2] at p2
        obtain ⟨b, F', ad', e1, sr', le, r⟩ := sr.freeze q q2
        exact ⟨_, e1, p2 H F' ad' le sr' _ r⟩
theorem de_pw (i : Nat) (h : PE X e (tVar i)) : PE X e (tW S W (wVar i)) := PE.imp h fun σ H Q ⟨F, env, ad, sr, p⟩ => by
  unfold wVar at p
  cases q : env[i]? with
  | none => rw [q] at p; exact p.elim
  | some s =>
    rw [q] at p
    cases s with
    | emp => exact p.elim
    | dat d =>
      obtain ⟨_, v, e1, e2⟩ := sr.at_ i _ q
      exact ⟨v, e1, p H F ad (Le.refl F) sr v (e2.mono sr.sub)⟩
    | own o =>
      obtain ⟨d, e1, e2⟩ := Post.lift p
      obtain ⟨b, x1, x2⟩ := sr.at_ i _ q
      exact ⟨_, x1, e2 H F ad (Le.refl F) sr _ (own_rp sr.sub x2 (fun _ _ => rfl) e1)⟩
    | lent o =>
      obtain ⟨d, e1, e2⟩ := Post.lift p
      obtain ⟨b, x1, x2⟩ := sr.at_ i _ q
      exact ⟨_, x1, e2 H F ad (Le.refl F) sr _ (own_rp sr.sub x2 (fun _ _ => rfl) e1)⟩
theorem dv (i : Nat) {x : Str} (hN : X.N[i]? = some x := by rfl) (hv : Vis X.env.scope x := by first | exact Or.inl rfl | exact Or.inr (Or.inl rfl) | exact Or.inr (Or.inr rfl)) (hd : (x == ("__debug__" : Str)) = false := by decide)
    (hcd : (x == ("__classdict__" : Str)) = false := by decide) : PE X (.Name x pos) (tD S W (eVar i)) := de_pv i (pv i hN hv hd hcd)
theorem dw (i : Nat) {x : Str} (hN : X.N[i]? = some x := by rfl) (hv : Vis X.env.scope x := by first | exact Or.inl rfl | exact Or.inr (Or.inl rfl) | exact Or.inr (Or.inr rfl)) (hd : (x == ("__debug__" : Str)) = false := by decide)
    (hcd : (x == ("__classdict__" : Str)) = false := by decide) : PE X (.Name x pos) (tW S W (wVar i)) := de_pw i (pv i hN hv hd hcd)
def eOp (f : D → D → Option D) (ma mb : M D) : M D := fun env => (ma env).bind fun x e1 => (mb e1).bind fun y e2 => lift (f x y) e2
def eUn (f : D → Option D) (ma : M D) : M D := fun env => (ma env).bind fun x e1 => lift (f x) e1
def OpD (S : Gd) (r : R2) (f : D → D → Option D) : Prop := ∀ (σ : L2.St) (H F : Hp) (env : Env) (ad : Nat → List Addr) (x y : V) (a b d : D) (Q : VK), SR S σ H F env ad → Rp S.T F x a → Rp S.T F y b → f a b = some d →
  (∀ v H' F' ad', Le F F' → SR S σ H' F' env ad' → Rp S.T F' v d → Q v H') → r x y H Q
def UnD (S : Gd) (r : V → Hp → VK → Prop) (f : D → Option D) : Prop := ∀ (σ : L2.St) (H F : Hp) (env : Env) (ad : Nat → List Addr) (x : V) (a d : D) (Q : VK), SR S σ H F env ad → Rp S.T F x a → f a = some d →
  (∀ v H' F' ad', Le F F' → SR S σ H' F' env ad' → Rp S.T F' v d → Q v H') → r x H Q
def OpW (S : Gd) (r : R2) (f : D → D → Option D) : Prop := ∀ (σ : L2.St) (H F : Hp) (env : Env) (ad : Nat → List Addr) (x y : V) (a b d : D) (Q : VK), SR S σ H F env ad → Rp S.T H x a → Rp S.T H y b → f a b = some d →
  (∀ v H' F' ad', Le F F' → SR S σ H' F' env ad' → Rp S.T F' v d → Q v H') → r x y H Q
theorem t_op {r : R2} {f : D → D → Option D} (hd : OpD S r f) {σ : L2.St} {H : Hp} {Q : VK} (h : tD S W (eOp f ma mb) σ H Q) : tOp r (tD S W ma) (tD S W mb) σ H Q := by
  obtain ⟨F, env, ad, sr, p⟩ := h
  refine ⟨F, env, ad, sr, p.bind.imp fun x e1 H1 F1 ad1 le1 sr1 q v1 r1 => ⟨F1, e1, ad1, sr1, q.2.bind.imp fun y e2 H2 F2 ad2 le2 sr2 q2 v2 r2 => ?_⟩⟩
  obtain ⟨d, e3, q3⟩ := Post.lift q2.2
  exact hd σ H2 F2 e2 ad2 v1 v2 x y d Q sr2 (r1.mono le2) r2 e3 fun v H' F' ad' le sr' r' => q3 H' F' ad' le sr' v r'
theorem t_opw {r : R2} {f : D → D → Option D} (hd : OpW S r f) {σ : L2.St} {H : Hp} {Q : VK} (h : tD S W (eOp f ma mb) σ H Q) : tOp r (tD S W ma) (tW S W mb) σ H Q := by
  obtain ⟨F, env, ad, sr, p⟩ := h
  refine ⟨F, env, ad, sr, p.bind.imp fun x e1 H1 F1 ad1 le1 sr1 q v1 r1 => ⟨F1, e1, ad1, sr1, q.2.bind.imp fun y e2 H2 F2 ad2 le2 sr2 q2 v2 r2 => ?_⟩⟩
  obtain ⟨d, e3, q3⟩ := Post.lift q2.2
  exact hd σ H2 F2 e2 ad2 v1 v2 x y d Q sr2 ((r1.mono le2).mono sr2.sub) r2 e3 fun v H' F' ad' le sr' r' => q3 H' F' ad' le sr' v r'
theorem de_bin {op : Operator} {r : R2} {f : D → D → Option D} (ho : OpR X (binaryOp op) r) (hd : OpD S r f) (ha : PE X a (tD S W ma)) (hb : PE X b (tD S W mb)) : PE X (.BinOp a op b pos) (tD S W (eOp f ma mb)) :=
  PE.imp (pe_op ho ha hb) fun σ H Q h => t_op hd h
theorem de_un {op : UnaryOp} {r : V → Hp → VK → Prop} {f : D → Option D} (ho : UnR X (unaryOp op) r) (hd : UnD S r f) (ha : PE X a (tD S W ma)) : PE X (.UnaryOp op a pos) (tD S W (eUn f ma)) :=
  PE.imp (pe_un ho ha) fun σ H Q ⟨F, env, ad, sr, p⟩ => ⟨F, env, ad, sr, p.bind.imp fun x e1 H1 F1 ad1 le1 sr1 q v1 r1 => by
    obtain ⟨d, e3, q3⟩ := Post.lift q.2
    exact hd σ H1 F1 e1 ad1 v1 x d Q sr1 r1 e3 fun v H' F' ad' le sr' r' => q3 H' F' ad' le sr' v r'⟩
theorem de_cmp {op : CmpOp} {r : R2} {f : D → D → Option D} (ho : OpR X (compareOp op) r) (hd : OpW S r f) (ha : PE X a (tD S W ma)) (hb : PE X b (tW S W mb)) (hm : behindInMarks op b = false) : PE X (.Compare a [op] [b] pos) (tD S W (eOp f ma mb)) :=
  PE.imp (pe_cmpR ho ha hb hm) fun σ H Q h => t_opw hd h
def eOpV (f : D → D → Option D) (i : Nat) (mb : M D) : M D := fun env => match env[i]? with
  | some .emp => .bad
  | none => .bad
  | _ => (mb env).bind fun y e2 => (wVar i e2).bind fun x e3 => lift (f x y) e3
theorem look_var {σ : L2.St} {H F : Hp} {env : Env} {ad : Nat → List Addr} {i : Nat} {x : D} {e3 : Env} (sr : SR S σ H F env ad) (h : wVar i env = .ok x e3) : e3 = env ∧ ∃ v, σ[i]? = some (some v) ∧ Rp S.T H v x := by
  unfold wVar at h
  cases q : env[i]? with
  | none => rw [q] at h; cases h
  | some s =>
    rw [q] at h
    cases s with
    | emp => cases h
    | dat d =>
      cases h
      obtain ⟨_, v, e1, e2⟩ := sr.at_ i _ q
      exact ⟨rfl, v, e1, e2.mono sr.sub⟩
    | own o =>
      have h2 : lift o.dat? env = .ok x e3 := h
      unfold lift at h2
      cases q2 : o.dat? with
      | none => rw [q2] at h2; cases h2
      | some d =>
        rw [q2] at h2
        cases h2
        obtain ⟨b, x1, x2⟩ := sr.at_ i _ q
        exact ⟨rfl, _, x1, own_rp sr.sub x2 (fun _ _ => rfl) q2⟩
    | lent o =>
      have h2 : lift o.dat? env = .ok x e3 := h
      unfold lift at h2
      cases q2 : o.dat? with
      | none => rw [q2] at h2; cases h2
      | some d =>
        rw [q2] at h2
        cases h2
        obtain ⟨b, x1, x2⟩ := sr.at_ i _ q
        exact ⟨rfl, _, x1, own_rp sr.sub x2 (fun _ _ => rfl) q2⟩
theorem some_of_slot {σ : L2.St} {H F : Hp} {env : Env} {ad : Nat → List Addr} {i : Nat} {s : Slot} (sr : SR S σ H F env ad) (q : env[i]? = some s) (h : s ≠ .emp) : ∃ v, σ[i]? = some (some v) := by
  cases s with
  | emp => exact absurd rfl h
  | dat d =>
    obtain ⟨_, v, e1, _⟩ := sr.at_ i _ q
    exact ⟨v, e1⟩
  | own o =>
    obtain ⟨b, x1, _⟩ := sr.at_ i _ q
    exact ⟨_, x1⟩
  | lent o =>
    obtain ⟨b, x1, _⟩ := sr.at_ i _ q
    exact ⟨_, x1⟩
theorem t_opv {r : R2} {f : D → D → Option D} {i : Nat} (hd : OpW S r f) {σ : L2.St} {H : Hp} {Q : VK} (h : tD S W (eOpV f i mb) σ H Q) : tOp r (tVar i) (tD S W mb) σ H Q := by
  obtain ⟨F, env, ad, sr, p⟩ := h
  unfold eOpV at p
  have key : ∀ s, env[i]? = some s → s ≠ .emp → Post S W σ F ((mb env).bind fun y e2 => (wVar i e2).bind fun x e3 => lift (f x y) e3) (fun d _ H' F' _ => ∀ v, Rp S.T F' v d → Q v H') → tOp r (tVar i) (tD S W mb) σ H Q := fun s q ns p2 => by
    obtain ⟨v, hv⟩ := some_of_slot sr q ns
    refine ⟨v, hv, F, env, ad, sr, p2.bind.imp fun y e2 H2 F2 ad2 le2 sr2 q2 v2 r2 => ?_⟩
    have q3 := q2.2
    cases hw : wVar i e2 with
    | ok x e3 =>
      rw [hw] at q3
      obtain ⟨ee, v', hv', rx⟩ := look_var sr2 hw
      rw [hv] at hv'
      cases hv'
      subst ee
      obtain ⟨d, e4, q4⟩ := Post.lift q3
      exact hd σ H2 F2 e3 ad2 v v2 x y d Q sr2 rx (r2.mono sr2.sub) e4 fun v H' F' ad' le sr' r' => q4 H' F' ad' le sr' v r'
    | exc c e3 =>
      unfold wVar at hw
      split at hw <;> first | cases hw | (unfold lift at hw; split at hw <;> cases hw)
    | bad =>
      rw [hw] at q3
      exact q3.elim
  cases q : env[i]? with
  | none => rw [q] at p; exact p.elim
  | some s =>
    rw [q] at p
    cases s with
    | emp => exact p.elim
    | dat d => exact key _ q (by intro z; cases z) p
    | own o => exact key _ q (by intro z; cases z) p
    | lent o => exact key _ q (by intro z; cases z) p
end
section
variable {X : Cx} {S : Gd} {W : WX} {e a b c : Expr} {es : List Expr} {pos : Pos} {m ma mb : M D} {t u : M Bool}
def asB (m : M D) : M Bool := fun env => (m env).bind fun d e => match d with
  | .bl b => .ok b e
  | _ => .bad
theorem t_asB {σ : L2.St} {H : Hp} {Q : Bool → Hp → Prop} (h : tT S W (asB m) σ H Q) : tD S W m σ H fun x H' => ∃ k, x = .bl k ∧ Q k H' := by
  obtain ⟨F, env, ad, sr, p⟩ := h
  refine ⟨F, env, ad, sr, p.bind.imp fun d e1 H1 F1 ad1 le1 sr1 q v r => ?_⟩
  cases r with
  | bl b => exact ⟨b, rfl, q.2 H1 F1 ad1 (Le.refl F1) sr1⟩
  | non => exact q.2.elim
  | int i => exact q.2.elim
  | str x => exact q.2.elim
  | lst _ _ => exact q.2.elim
  | tup _ _ => exact q.2.elim
  | ins _ _ _ _ => exact q.2.elim
  | scr _ => exact q.2.elim
  | exc _ _ => exact q.2.elim
  | dct _ _ _ _ => exact q.2.elim
  | wd _ => exact q.2.elim
  | raw _ => exact q.2.elim
theorem dt_val (h : PE X e (tD S W m)) (he : ∀ whole, isTrue e X.env whole = (do let v ← whole; standAt e.pos; holding [v] (truthy v)) := by intro _; rfl) : PT X e (tT S W (asB m)) :=
  PT.imp (pt_val h he) fun σ H Q q => t_asB q
theorem dt_cmp {op : CmpOp} {r : R2} {f : D → D → Option D} (ho : OpR X (compareOp op) r) (hd : OpW S r f) (ha : PE X a (tD S W ma)) (hb : PE X b (tW S W mb)) (hm : behindInMarks op b = false) : PT X (.Compare a [op] [b] pos) (tT S W (asB (eOp f ma mb))) :=
  PT.imp (pt_cmpR ho ha hb hm) fun σ H Q q => t_opw hd (t_asB q)
theorem dt_cmpV {op : CmpOp} {r : R2} {f : D → D → Option D} (i : Nat) (ho : OpR X (compareOp op) r) (hd : OpW S r f) (ha : PE X a (tVar i)) (hb : PE X b (tD S W mb)) (hm : behindInMarks op b = false) : PT X (.Compare a [op] [b] pos) (tT S W (asB (eOpV f i mb))) :=
  PT.imp (pt_cmpR ho ha hb hm) fun σ H Q q => t_opv hd (t_asB q)
def bAnd (t u : M Bool) : M Bool := fun env => (t env).bind fun b e => if b = true then u e else .ok false e
def bOr (t u : M Bool) : M Bool := fun env => (t env).bind fun b e => if b = true then .ok true e else u e
def bNot (t : M Bool) : M Bool := fun env => (t env).bind fun b e => .ok (!b) e
theorem dw_and1 (h : PT X a (tT S W t)) : PW X (.BoolOp .And [a] pos) (tT S W t) := pw_and1 h
theorem dw_or1 (h : PT X a (tT S W t)) : PW X (.BoolOp .Or [a] pos) (tT S W t) := pw_or1 h
theorem dw_and (h : PT X a (tT S W t)) (h2 : PW X (.BoolOp .And (b :: es) pos) (tT S W u)) : PW X (.BoolOp .And (a :: b :: es) pos) (tT S W (bAnd t u)) :=
  PW.imp (pw_and h h2) fun σ H Q ⟨F, env, ad, sr, p⟩ => ⟨F, env, ad, sr, p.bind.imp fun k e1 H1 F1 ad1 le1 sr1 q => by
    cases k with
    | true =>
      rw [if_pos rfl]
      exact ⟨F1, e1, ad1, sr1, q.2⟩
    | false =>
      rw [if_neg Bool.false_ne_true]
      exact q.2 H1 F1 ad1 (Le.refl F1) sr1⟩
theorem dw_or (h : PT X a (tT S W t)) (h2 : PW X (.BoolOp .Or (b :: es) pos) (tT S W u)) : PW X (.BoolOp .Or (a :: b :: es) pos) (tT S W (bOr t u)) :=
  PW.imp (pw_or h h2) fun σ H Q ⟨F, env, ad, sr, p⟩ => ⟨F, env, ad, sr, p.bind.imp fun k e1 H1 F1 ad1 le1 sr1 q => by
    cases k with
    | true =>
      rw [if_pos rfl]
      exact q.2 H1 F1 ad1 (Le.refl F1) sr1
    | false =>
      rw [if_neg Bool.false_ne_true]
      exact ⟨F1, e1, ad1, sr1, q.2⟩⟩
theorem dt_not (h : PT X a (tT S W t)) : PT X (.UnaryOp .Not a pos) (tT S W (bNot t)) :=
  PT.imp (pt_not h) fun σ H Q ⟨F, env, ad, sr, p⟩ => ⟨F, env, ad, sr, p.bind.imp fun k e1 H1 F1 ad1 le1 sr1 q => q.2 H1 F1 ad1 (Le.refl F1) sr1⟩
def eIf (t : M Bool) (ma mb : M D) : M D := fun env => (t env).bind fun b e => if b = true then ma e else mb e
theorem de_if (h : PT X c (tT S W t)) (ha : PE X a (tD S W ma)) (hb : PE X b (tD S W mb)) : PE X (.IfExp c a b pos) (tD S W (eIf t ma mb)) :=
  PE.imp (pe_ifExp h ha hb) fun σ H Q ⟨F, env, ad, sr, p⟩ => ⟨F, env, ad, sr, p.bind.imp fun k e1 H1 F1 ad1 le1 sr1 q => by
    cases k with
    | true =>
      rw [if_pos rfl]
      exact ⟨F1, e1, ad1, sr1, q.2⟩
    | false =>
      rw [if_neg Bool.false_ne_true]
      exact ⟨F1, e1, ad1, sr1, q.2⟩⟩
def eAnd (ma mb : M D) : M D := fun env => (asB ma env).bind fun b e => if b = true then mb e else .ok (.bl false) e
def eOr (ma mb : M D) : M D := fun env => (asB ma env).bind fun b e => if b = true then .ok (.bl true) e else mb e
def eNot (ma : M D) : M D := fun env => (asB ma env).bind fun b e => .ok (.bl (!b)) e
theorem t_asBk {β : Type} {f : Bool → Env → Res β} {K : β → Env → Hp → Hp → (Nat → List Addr) → Prop} {σ : L2.St} {F : Hp} {env : Env} (p : Post S W σ F ((asB m env).bind f) K) :
    Post S W σ F (m env) fun d e H' F' ad' => Le F F' ∧ ∃ b, d = .bl b ∧ Post S W σ F' (f b e) K := by
  unfold asB at p
  generalize m env = q at p
  cases q with
  | bad => exact p
  | exc c e => exact p
  | ok d e =>
    cases d with
    | bl b =>
      have p2 : Post S W σ F (Res.bind (.ok b e) f) K := p
      intro H' F' ad' le sr
      have z := p2.bind H' F' ad' le sr
      exact ⟨le, b, rfl, z.2⟩
    | _ => exact p.elim
theorem de_one {op : BoolOp} (h : PE X a (tD S W ma)) : PE X (.BoolOp op [a] pos) (tD S W ma) := pe_one h
theorem de_and (ha : PE X a (tD S W ma)) (hb : PE X (.BoolOp .And (b :: es) pos) (tD S W mb)) : PE X (.BoolOp .And (a :: b :: es) pos) (tD S W (eAnd ma mb)) :=
  PE.imp (pe_and ha hb) fun σ H Q ⟨F, env, ad, sr, p⟩ => ⟨F, env, ad, sr, (t_asBk p).imp fun d e1 H1 F1 ad1 le1 sr1 q v r => by
    obtain ⟨_, k, rfl, q⟩ := q
    cases r
    refine ⟨k, rfl, ?_⟩
    cases k with
    | true =>
      rw [if_pos rfl]
      exact ⟨F1, e1, ad1, sr1, q⟩
    | false =>
      rw [if_neg Bool.false_ne_true]
      exact q H1 F1 ad1 (Le.refl F1) sr1 _ (.bl false)⟩
theorem de_not (ha : PE X a (tD S W ma)) : PE X (.UnaryOp .Not a pos) (tD S W (eNot ma)) :=
  PE.imp (pe_not ha) fun σ H Q ⟨F, env, ad, sr, p⟩ => ⟨F, env, ad, sr, (t_asBk p).imp fun d e1 H1 F1 ad1 le1 sr1 q v r => by
    obtain ⟨_, k, rfl, q⟩ := q
    cases r
    exact ⟨k, rfl, q H1 F1 ad1 (Le.refl F1) sr1 _ (.bl _)⟩⟩
end
section
variable {X : Cx} {S : Gd} {W : WX} {e a b c : Expr} {es : List Expr} {pos : Pos} {m ma mb : M D} {l : M (List D)}
def aNil : M (List D) := fun env => .ok [] env
def aCons (m : M D) (l : M (List D)) : M (List D) := fun env => (m env).bind fun d e => (l e).bind fun ds e2 => .ok (d :: ds) e2
theorem da_nil : PA X [] (tL S W aNil) := PA.imp pa_nil fun σ H Q ⟨F, env, ad, sr, p⟩ => p H F ad (Le.refl F) sr [] .nil
theorem da_cons (h : PE X e (tD S W m)) (hr : PA X es (tL S W l)) (hs : starEach (e :: es) X.env = (false, eval e X.env) :: starEach es X.env := by exact star_ok _ _ _ rfl) : PA X (e :: es) (tL S W (aCons m l)) :=
  PA.imp (pa_cons h hr hs) fun σ H Q ⟨F, env, ad, sr, p⟩ => ⟨F, env, ad, sr, p.bind.imp fun d e1 H1 F1 ad1 le1 sr1 q v r => ⟨F1, e1, ad1, sr1, q.2.bind.imp fun ds e2 H2 F2 ad2 le2 sr2 q2 vs rs => q2.2 H2 F2 ad2 (Le.refl F2) sr2 _ (.cons (r.mono le2) rs)⟩⟩
def eTup (l : M (List D)) : M D := fun env => (l env).bind fun ds e => if ds.length ≤ 1000 then .ok (.tup ds) e else .bad
def eLst (l : M (List D)) : M D := fun env => (l env).bind fun ds e => if ds.length ≤ 1000 then .ok (.lst ds) e else .bad
theorem size1000 {n : Nat} (h : n ≤ 1000) : n ≤ sizeLine := Nat.le_trans h (by decide)
theorem notb_tup {xs : List V} : NoTbl (.tup xs) := fun _ z => by cases z
theorem notb_lst {xs : List V} : NoTbl (.lst xs) := fun _ z => by cases z
theorem SR.newTup {σ : L2.St} {H F : Hp} {env : Env} {ad : Nat → List Addr} {vs : List V} {ds : List D} (sr : SR S σ H F env ad) (r : RpAll S.T F vs ds) {p : Addr} (hp : H p = none) : ∃ F', Le F F' ∧ SR S σ (upd H p (.tup vs)) F' env ad ∧ Rp S.T F' (.ref p) (.tup ds) := by
  obtain ⟨sr2, le⟩ := sr.alloc (o := .tup vs) hp notb_tup
  exact ⟨_, le, sr2, .tup (.of upd_same) (r.mono le)⟩
theorem SR.newLst {σ : L2.St} {H F : Hp} {env : Env} {ad : Nat → List Addr} {vs : List V} {ds : List D} (sr : SR S σ H F env ad) (r : RpAll S.T F vs ds) {p : Addr} (hp : H p = none) : ∃ F', Le F F' ∧ SR S σ (upd H p (.lst vs)) F' env ad ∧ Rp S.T F' (.ref p) (.lst ds) := by
  obtain ⟨sr2, le⟩ := sr.alloc (o := .lst vs) hp notb_lst
  exact ⟨_, le, sr2, .lst upd_same (r.mono le)⟩
theorem de_tup {x1} (h : PA X es (tL S W l)) : PE X (.Tuple es x1 pos) (tD S W (eTup l)) :=
  PE.imp (pe_tup h) fun σ H Q ⟨F, env, ad, sr, p⟩ => ⟨F, env, ad, sr, p.bind.imp fun ds e1 H1 F1 ad1 le1 sr1 q vs rs => by
    have q2 := q.2
    by_cases hl : ds.length ≤ 1000
    · rw [if_pos hl] at q2
      refine ⟨by rw [rs.length]; exact size1000 hl, fun b hb => ?_⟩
      obtain ⟨F2, le2, sr2, r2⟩ := sr1.newTup rs hb
      exact q2 _ F2 ad1 le2 sr2 _ r2
    · rw [if_neg hl] at q2
      exact q2.elim⟩
theorem de_lst (h : PA X es (tL S W l)) : PE X (.List es pos) (tD S W (eLst l)) :=
  PE.imp (pe_lst h) fun σ H Q ⟨F, env, ad, sr, p⟩ => ⟨F, env, ad, sr, p.bind.imp fun ds e1 H1 F1 ad1 le1 sr1 q vs rs => by
    have q2 := q.2
    by_cases hl : ds.length ≤ 1000
    · rw [if_pos hl] at q2
      refine ⟨by rw [rs.length]; exact size1000 hl, fun b hb => ?_⟩
      obtain ⟨F2, le2, sr2, r2⟩ := sr1.newLst rs hb
      exact q2 _ F2 ad1 le2 sr2 _ r2
    · rw [if_neg hl] at q2
      exact q2.elim⟩
end
end DL
set_option Elab.async false
set_option linter.all false
set_option maxRecDepth 100000
set_option maxHeartbeats 2000000
namespace DL
open PySem PySem.Spec PyProof.Rows L2
mutual
def D.toP : D → PyData
  | .non => .none
  | .bl b => .bool b
  | .int i => .int i
  | .str x => .str x
  | .lst xs => .list (toPs xs)
  | .tup xs => .tuple (toPs xs)
  | .ins _ _ _ => .dict []
  | .raw _ => .dict []
  | .exc _ => .dict []
  | .dct _ _ => .dict []
  | .wd _ => .dict []
  | .scr ns => .list (ns.map .int)
def toPs : List D → List PyData
  | [] => []
  | d :: ds => d.toP :: toPs ds
end
theorem dp_ints {K : PySem.W.Frag} {H : Hp} : ∀ ns : List Int, DpAll K H (ns.map V.int) (ns.map PyData.int)
  | [] => .nil
  | n :: r => .cons (.int n) (dp_ints r)
mutual
theorem Rp.dp {T : Tb} {F : Hp} : ∀ {v : V} {d : D}, Rp T F v d → d.toP.canLay0 = true → Dp T.K F v d.toP
  | _, _, .non, _ => by rw [D.toP]; exact .non
  | _, _, .bl b, _ => by rw [D.toP]; exact .bl b
  | _, _, .int i, _ => by rw [D.toP]; exact .int i
  | _, _, .str x, _ => by rw [D.toP]; exact .str x
  | _, _, .lst h a, c => by
    rw [D.toP] at c ⊢
    exact .lst (.of h) (RpAll.dp a (by simpa [PyData.canLay0] using c))
  | _, _, .tup h a, c => by
    rw [D.toP] at c ⊢
    exact .tup h (RpAll.dp a (by simpa [PyData.canLay0] using c))
  | _, _, .ins _ _ _ _, c => by
    rw [D.toP] at c
    simp [PyData.canLay0] at c
  | _, _, .raw _, c => by
    rw [D.toP] at c
    simp [PyData.canLay0] at c
  | _, _, .dct _ _ _ _, c => by
    rw [D.toP] at c
    simp [PyData.canLay0] at c
  | _, _, .wd _, c => by
    rw [D.toP] at c
    simp [PyData.canLay0] at c
  | _, _, .exc _ _, c => by
    rw [D.toP] at c
    simp [PyData.canLay0] at c
  | _, _, .scr (ns := ns) h, c => by
    rw [D.toP]
    exact .lst h (dp_ints ns)
theorem RpAll.dp {T : Tb} {F : Hp} : ∀ {vs : List V} {ds : List D}, RpAll T F vs ds → PyData.canLayAll0 (toPs ds) = true → DpAll T.K F vs (toPs ds)
  | _, _, .nil, _ => by rw [toPs]; exact .nil
  | _, _, .cons h t, c => by
    rw [toPs] at c ⊢
    rw [PyData.canLayAll0, Bool.and_eq_true] at c
    exact .cons (Rp.dp h c.1) (RpAll.dp t c.2)
end
def D.sh (d : D) : Bool := SeqAt.shaped d.toP
theorem Rp.dps {T : Tb} {F : Hp} {v : V} {d : D} (h : Rp T F v d) (s : d.sh = true) : Dp T.K F v d.toP := h.dp (SeqAt.canLay_of_shaped s)
def D.eqv (a b : D) : Bool := PyData.eqv a.toP b.toP
def addD : D → D → Option D
  | .int i, .int j => some (.int (i + j))
  | .str x, .str y => if x.length + y.length ≤ sizeLine then some (.str (x ++ y)) else none
  | .lst xs, .lst ys => if xs.length + ys.length ≤ sizeLine then some (.lst (xs ++ ys)) else none
  | .tup xs, .tup ys => if xs.length + ys.length ≤ sizeLine then some (.tup (xs ++ ys)) else none
  | _, _ => none
def subD : D → D → Option D
  | .int i, .int j => some (.int (i - j))
  | _, _ => none
def small64 (i : Int) : Bool := decide (-(2 ^ 64) < i) && decide (i < 2 ^ 64)
def mulOk (i j : Int) : Bool := small64 i || (small64 j || decide (i.natAbs.log2 + j.natAbs.log2 < 1000000))
def mulD : D → D → Option D
  | .int i, .int j => if mulOk i j = true then some (.int (i * j)) else none
  | .str x, .int k => if 0 ≤ k ∧ k ≤ 1000 ∧ x.length ≤ 1000 then some (.str ⟨(List.replicate k.toNat x.cps.toList).flatten.toArray⟩) else none
  | .lst xs, .int k => if 0 ≤ k ∧ k ≤ 1000 ∧ xs.length ≤ 1000 then some (.lst (List.replicate k.toNat xs).flatten) else none
  | .tup xs, .int k => if xs ≠ [] ∧ 1 ≤ k ∧ k ≤ 1000 ∧ xs.length ≤ 1000 then some (.tup (List.replicate k.toNat xs).flatten) else none
  | _, _ => none
def divD : D → D → Option D
  | .int i, .int j => if 0 < j ∧ j.natAbs.log2 < 9000 then some (.int (i / j)) else none
  | _, _ => none
def modD : D → D → Option D
  | .int i, .int j => if 0 < j then some (.int (i % j)) else none
  | _, _ => none
def powD : D → D → Option D
  | .int i, .int j => if 0 ≤ j ∧ j ≤ 1000 ∧ i.natAbs < 2 ^ 64 then some (.int (i ^ j.toNat)) else none
  | _, _ => none
def negD : D → Option D
  | .int i => some (.int (-i))
  | _ => none
section
variable {S : Gd} {X : Cx}
def rAddA (K : PySem.W.Frag) : R2 := fun x y H Q => rI0 (fun i j => .int (i + j)) x y H Q ∨ (∃ i j, x = .str i ∧ y = .str j ∧ i.length + j.length ≤ sizeLine ∧ Q (.str (i ++ j)) H) ∨ rCat x y H Q ∨ rCatA K x y H Q
theorem op_addA : OpR X (binaryOp .Add) (rAddA X.K) := op_add.or (op_add_str.or (op_cat.or op_catA))
theorem od_add : OpD S (rAddA S.T.K) addD := by
  intro σ H F env ad x y a b d Q sr rx ry e k
  unfold addD at e
  split at e
  · cases rx; cases ry; cases e
    exact .inl ⟨_, _, rfl, rfl, k _ H F ad (Le.refl F) sr (.int _)⟩
  · split at e
    · rename_i h
      cases rx; cases ry; cases e
      exact .inr (.inl ⟨_, _, rfl, rfl, h, k _ H F ad (Le.refl F) sr (.str _)⟩)
    · cases e
  · split at e
    · rename_i h
      cases e
      cases rx with
      | lst h1 r1 =>
        cases ry with
        | lst h2 r2 =>
          refine .inr (.inr (.inl ⟨_, _, _, _, rfl, rfl, sr.sub _ _ h1, sr.sub _ _ h2, by rw [r1.length, r2.length]; exact h, fun p hp => ?_⟩))
          obtain ⟨F', le, sr', r'⟩ := sr.newLst (r1.append r2) hp
          exact k _ _ F' ad le sr' r'
    · cases e
  · split at e
    · rename_i h
      cases e
      cases rx with
      | tup h1 r1 =>
        cases ry with
        | tup h2 r2 =>
          refine .inr (.inr (.inr ⟨_, _, _, _, rfl, rfl, sr.sub.t h1, sr.sub.t h2, by rw [r1.length, r2.length]; exact h, fun z => ?_, fun _ z => ?_, fun _ _ p hp => ?_⟩))
          · subst z
            cases r1
            exact k _ H F ad (Le.refl F) sr (.tup h2 r2)
          · subst z
            cases r2
            rw [List.append_nil] at k
            exact k _ H F ad (Le.refl F) sr (.tup h1 r1)
          · obtain ⟨F', le, sr', r'⟩ := sr.newTup (r1.append r2) hp
            exact k _ _ F' ad le sr' r'
    · cases e
  · cases e
theorem od_int {g : Int → Int → Int} {f : D → D → Option D} (hf : ∀ a b d, f a b = some d → ∃ i j, a = .int i ∧ b = .int j ∧ d = .int (g i j)) : OpD S (rI0 fun i j => .int (g i j)) f := by
  intro σ H F env ad x y a b d Q sr rx ry e k
  obtain ⟨i, j, rfl, rfl, rfl⟩ := hf a b d e
  cases rx; cases ry
  exact ⟨_, _, rfl, rfl, k _ H F ad (Le.refl F) sr (.int _)⟩
theorem od_sub : OpD S (rI0 fun i j => .int (i - j)) subD := od_int fun a b d e => by
  unfold subD at e
  split at e
  · cases e; exact ⟨_, _, rfl, rfl, rfl⟩
  · cases e
def rRepT1 (K : PySem.W.Frag) : R2 := fun x y H Q => ∃ l xs, x = .ref l ∧ y = .int 1 ∧ SqT K H l xs ∧ Q (.ref l) H
def rMulA (K : PySem.W.Frag) : R2 := fun x y H Q => rI CMul (fun i j => .int (i * j)) x y H Q ∨ rI CMulW (fun i j => .int (i * j)) x y H Q ∨
  (∃ z k, x = .str z ∧ y = .int k ∧ 0 ≤ k ∧ k ≤ 1000 ∧ z.length ≤ 1000 ∧ Q (.str ⟨(List.replicate k.toNat z.cps.toList).flatten.toArray⟩) H) ∨ rRep x y H Q ∨ rRepT K x y H Q ∨ rRepT1 K x y H Q
theorem rep_fold (a : Array Nat) : ∀ (m : Nat) (acc : Array Nat), (List.replicate m a).foldl (· ++ ·) acc = acc ++ (List.replicate m a.toList).flatten.toArray
  | 0, acc => by simp
  | m + 1, acc => by
    rw [List.replicate_succ, List.foldl_cons, rep_fold a m, List.replicate_succ, List.flatten_cons]
    apply Array.ext'
    simp
theorem rep_str {z : Str} {m : Nat} : (⟨(List.replicate m z.cps).foldl (· ++ ·) #[]⟩ : Str) = ⟨(List.replicate m z.cps.toList).flatten.toArray⟩ := by
  rw [rep_fold]
  simp
theorem op_rep_str : OpR X (binaryOp .Mult) (fun x y H Q => ∃ z k, x = .str z ∧ y = .int k ∧ 0 ≤ k ∧ k ≤ 1000 ∧ z.length ≤ 1000 ∧ Q (.str ⟨(List.replicate k.toNat z.cps.toList).flatten.toArray⟩) H) := by
  intro pins s σ H x y v u Q I rx ry h
  obtain ⟨z, k, rfl, rfl, h0, h1, h2, q⟩ := h
  obtain ⟨t, rfl⟩ := rx
  obtain ⟨t', rfl⟩ := ry
  have len : z.length * k.toNat ≤ 1000000 := Nat.le_trans (Nat.mul_le_mul h2 (show k.toNat ≤ 1000 by omega)) (by decide)
  refine PySem.P.mul_str ?_ (fun hk _ => ?_) (fun _ _ => ?_) ?_
  · rw [decide_eq_false (by omega), decide_eq_false (by omega)]
    rfl
  · have h5 : (2 ^ 63 - 1) / k ≥ (2 ^ 63 - 1) / 1000 := by
      apply Int.le_of_sub_nonneg
      have hk0 : 0 < k := by omega
      have e1 : (2 ^ 63 - 1 : Int) / 1000 ≤ (2 ^ 63 - 1) / k := by
        apply (Int.le_ediv_iff_mul_le hk0).mpr
        have e2 : ((2 ^ 63 - 1 : Int) / 1000) * k ≤ ((2 ^ 63 - 1 : Int) / 1000) * 1000 := Int.mul_le_mul_of_nonneg_left h1 (by decide)
        exact Int.le_trans e2 (by decide)
      omega
    have h6 : (2 ^ 63 - 1 : Int) / 1000 > 1000 := by decide
    omega
  · unfold Builtin.Str.tooLong
    rw [decide_eq_false]
    rw [sizeLine_eq]
    omega
  · by_cases hk : k < 1
    · rw [if_pos hk]
      have e : k.toNat = 0 := by omega
      rw [e] at q
      exact ⟨by decide, .str _, H, I.tok _, ⟨_, rfl⟩, q⟩
    · rw [if_neg hk]
      by_cases h3 : (k == 1 || z.length == 0) = true
      · rw [if_pos h3]
        have e : (⟨(List.replicate k.toNat z.cps.toList).flatten.toArray⟩ : Str) = z := by
          rw [Bool.or_eq_true] at h3
          rcases h3 with h3 | h3
          · have e1 : k = 1 := by simpa using h3
            subst e1
            cases z
            simp
          · have e1 : z.cps.size = 0 := (by simpa using h3 : z.length = 0)
            have e2 : z.cps = #[] := Array.eq_empty_of_size_eq_zero e1
            cases z
            simp at e2
            subst e2
            simp
        rw [e] at q
        exact ⟨.str _, H, I, ⟨_, rfl⟩, q⟩
      · rw [if_neg h3, rep_str]
        refine ⟨?_, .str _, H, I.tok _, ⟨_, rfl⟩, q⟩
        show (List.replicate k.toNat z.cps.toList).flatten.toArray.size ≤ _
        have e1 : (List.replicate k.toNat z.cps.toList).flatten.toArray.size = k.toNat * z.length := by
          rw [List.size_toArray, PyProof.Rows.lm_len_rep_flat]
          rfl
        rw [e1, Nat.mul_comm, sizeLine_eq]
        omega
theorem tuple_mul1 (l : Addr) (items : Array Value) (n : Nat) (dd : Option Addr) (sl : Array (Option Value)) (u : Tok) :
    Meets (Builtin.«tuple.__mul__» ⟨[.ref l, .int 1 u], []⟩) (fun _ R s => s.heap.get? l = some { cls := .type "tuple", dict := dd, data := .seq items n, slots := sl } ∧ R (.ok (.ret (Value.ref l))) s) :=
  .of_wp fun prog w A R s h => by
    obtain ⟨hp, g, d, tk, os⟩ := s
    obtain ⟨hl, h⟩ := h
    have f1 := AutoSeq1.idx_int
    have c0 : (decide ((1 : Int) < -(2 ^ 63)) || decide ((1 : Int) ≥ 2 ^ 63)) = false := by decide
    have c1 : (items.isEmpty || (1 : Int) == 1) = true := by simp
    wp_walk using wpAny_loadPart' hl
    repeat (first
      | (refine wpAny_ite_false (decide_eq_false (by rw [c0]; exact Bool.false_ne_true)) ?_; wp_walk using wpAny_loadPart' hl)
      | (refine wpAny_ite_true (decide_eq_true c1) ?_; wp_walk using wpAny_loadPart' hl))
    exact ⟨_, rfl, h⟩
theorem op_repT1 : OpR X (binaryOp .Mult) (rRepT1 X.K) := by
  intro pins s σ H x y v u Q I rx ry h
  obtain ⟨l, xs, rfl, rfl, hT, q⟩ := h
  cases rx
  obtain ⟨t, rfl⟩ := ry
  obtain ⟨its, r, ⟨⟨cls, dd, data, sl⟩, ho, hc, n, hd⟩, hs⟩ := I.tuple hT
  simp only at hc hd
  subst hc hd
  refine wpAny_binaryOp_repeat_ref (T := "tuple") (U := "int") (by decide) ⟨_, ho, rfl⟩ (fun s' => typeIs_int s' 1 t) noFill_tuple_mul F.fills_int_mul F.slot_int_rmul repeat_tuple F.slot_int_index.lookup
    (call_meets F.slot_int_rmul (typeIs_int s 1 t) F.entry_int_rmul (F.args_int_rmul_2 _ _) (int_rmul_tuple 1 t l its.toArray n dd sl)
      ⟨ho, rfl, ⟨_, ho, rfl⟩, call_meets F.slot_tuple_mul ⟨_, ho, rfl⟩ F.entry_tuple_mul (F.args_tuple_mul_2 _ _) (tuple_mul1 l its.toArray n dd sl t) ⟨ho, ?_⟩⟩)
  exact ⟨.ref l, H, I, rfl, q⟩
theorem op_mulA : OpR X (binaryOp .Mult) (rMulA X.K) := op_mul.or (op_mulW.or (op_rep_str.or (op_rep.or (op_repT.or op_repT1))))
theorem RpAll.rep {T : Tb} {F : Hp} {vs : List V} {ds : List D} (h : RpAll T F vs ds) : ∀ k : Nat, RpAll T F (List.replicate k vs).flatten (List.replicate k ds).flatten
  | 0 => .nil
  | k + 1 => by
    rw [List.replicate_succ, List.replicate_succ, List.flatten_cons, List.flatten_cons]
    exact h.append (RpAll.rep h k)
theorem od_mul : OpD S (rMulA S.T.K) mulD := by
  intro σ H F env ad x y a b d Q sr rx ry e k
  unfold mulD at e
  split at e
  · split at e
    · rename_i i j h
      cases rx; cases ry; cases e
      have kk := k _ H F ad (Le.refl F) sr (.int _)
      unfold mulOk at h
      rw [Bool.or_eq_true, Bool.or_eq_true] at h
      rcases h with h | h | h
      · refine .inl ⟨_, _, rfl, rfl, .inl ?_, kk⟩
        unfold small64 at h
        rw [Bool.and_eq_true] at h
        exact ⟨of_decide_eq_true h.1, of_decide_eq_true h.2⟩
      · refine .inl ⟨_, _, rfl, rfl, .inr ?_, kk⟩
        unfold small64 at h
        rw [Bool.and_eq_true] at h
        exact ⟨of_decide_eq_true h.1, of_decide_eq_true h.2⟩
      · refine .inr (.inl ⟨_, _, rfl, rfl, ?_, kk⟩)
        show _ < _
        exact of_decide_eq_true h
    · cases e
  · split at e
    · rename_i h
      cases rx; cases ry; cases e
      exact .inr (.inr (.inl ⟨_, _, rfl, rfl, h.1, h.2.1, h.2.2, k _ H F ad (Le.refl F) sr (.str _)⟩))
    · cases e
  · split at e
    · rename_i xs kk h
      cases ry; cases e
      cases rx with
      | lst h1 r1 =>
        have hl := r1.length
        have hm : xs.length * kk.toNat ≤ 1000000 := Nat.le_trans (Nat.mul_le_mul h.2.2 (show kk.toNat ≤ 1000 by omega)) (by decide)
        refine .inr (.inr (.inr (.inl ⟨_, _, _, rfl, rfl, sr.sub _ _ h1, by omega, by omega, by rw [hl, sizeLine_eq]; omega, fun p hp => ?_⟩)))
        obtain ⟨F', le, sr', r'⟩ := sr.newLst (r1.rep kk.toNat) hp
        exact k _ _ F' ad le sr' r'
    · cases e
  · split at e
    · rename_i xs kk h
      cases ry; cases e
      cases rx with
      | tup h1 r1 =>
        have hl := r1.length
        by_cases h1k : kk = 1
        · subst h1k
          refine .inr (.inr (.inr (.inr (.inr ⟨_, _, rfl, rfl, sr.sub.t h1, k _ H F ad (Le.refl F) sr ?_⟩))))
          have e1 : (List.replicate (Int.toNat 1) xs).flatten = xs := by
            show xs ++ [] = xs
            rw [List.append_nil]
          rw [e1]
          exact .tup h1 r1
        refine .inr (.inr (.inr (.inr (.inl ⟨_, _, _, rfl, rfl, sr.sub.t h1, fun z => ?_, by have := h.2.1; omega, h.2.2.1, by rw [hl]; exact h.2.2.2, fun p hp => ?_⟩))))
        · subst z
          cases r1
          exact h.1 rfl
        · obtain ⟨F', le, sr', r'⟩ := sr.newTup (r1.rep kk.toNat) hp
          exact k _ _ F' ad le sr' r'
    · cases e
  · cases e
theorem od_div : OpD S (rI CDivW fun i j => .int (i / j)) divD := by
  intro σ H F env ad x y a b d Q sr rx ry e k
  unfold divD at e
  split at e
  · split at e
    · rename_i h
      cases rx; cases ry; cases e
      exact ⟨_, _, rfl, rfl, h, k _ H F ad (Le.refl F) sr (.int _)⟩
    · cases e
  · cases e
theorem od_mod : OpD S (rI (fun _ j => 0 < j) fun i j => .int (i % j)) modD := by
  intro σ H F env ad x y a b d Q sr rx ry e k
  unfold modD at e
  split at e
  · split at e
    · rename_i h
      cases rx; cases ry; cases e
      exact ⟨_, _, rfl, rfl, h, k _ H F ad (Le.refl F) sr (.int _)⟩
    · cases e
  · cases e
theorem od_pow : OpD S (rI CPow fun i j => .int (i ^ j.toNat)) powD := by
  intro σ H F env ad x y a b d Q sr rx ry e k
  unfold powD at e
  split at e
  · split at e
    · rename_i h
      cases rx; cases ry; cases e
      exact ⟨_, _, rfl, rfl, ⟨h.1, by omega, h.2.2⟩, k _ H F ad (Le.refl F) sr (.int _)⟩
    · cases e
  · cases e
theorem ud_neg : UnD S (rU fun i => .int (-i)) negD := by
  intro σ H F env ad x a d Q sr rx e k
  unfold negD at e
  split at e
  · cases rx; cases e
    exact ⟨_, rfl, k _ H F ad (Le.refl F) sr (.int _)⟩
  · cases e
end
def eqD (a b : D) : Option D := if (a.sh && b.sh) = true then some (.bl (a.eqv b)) else none
def neD (a b : D) : Option D := if (a.sh && b.sh) = true then some (.bl (!a.eqv b)) else none
def ltD : D → D → Option D
  | .int i, .int j => some (.bl (decide (i < j)))
  | .str x, .str y => some (.bl (decide (x.cps.toList < y.cps.toList)))
  | _, _ => none
def leD : D → D → Option D
  | .int i, .int j => some (.bl (decide (i ≤ j)))
  | _, _ => none
def gtD : D → D → Option D
  | .int i, .int j => some (.bl (decide (j < i)))
  | _, _ => none
def geD : D → D → Option D
  | .int i, .int j => some (.bl (decide (j ≤ i)))
  | _, _ => none
def flat : D → Bool
  | .non | .bl _ | .int _ | .str _ => true
  | _ => false
def memD : D → D → Option Bool
  | .str x, .str y => some (!(Builtin.Str.occurrences y x 0 y.length 1).isEmpty)
  | a, .lst ds => if (a.sh && (D.lst ds).sh) = true then some (ds.any fun z => z.eqv a) else none
  | a, .tup ds => if (flat a && ds.all flat) = true then some (ds.any fun z => z.eqv a) else none
  | _, _ => none
def inD (a b : D) : Option D := (memD a b).map fun k => .bl k
def ninD (a b : D) : Option D := (memD a b).map fun k => .bl (!k)
section
variable {S : Gd} {X : Cx}
theorem ow_eq : OpW S (rEqD S.T.K) eqD := by
  intro σ H F env ad x y a b d Q sr rx ry e k
  unfold eqD at e
  split at e
  · rename_i h
    rw [Bool.and_eq_true] at h
    cases e
    exact ⟨_, _, rx.dps h.1, ry.dps h.2, h.1, h.2, k _ H F ad (Le.refl F) sr (.bl _)⟩
  · cases e
theorem ow_ne : OpW S (rNeD S.T.K) neD := by
  intro σ H F env ad x y a b d Q sr rx ry e k
  unfold neD at e
  split at e
  · rename_i h
    rw [Bool.and_eq_true] at h
    cases e
    exact ⟨_, _, rx.dps h.1, ry.dps h.2, h.1, h.2, k _ H F ad (Le.refl F) sr (.bl _)⟩
  · cases e
def rLtA : R2 := fun x y H Q => rI0 (fun i j => .bl (decide (i < j))) x y H Q ∨ (∃ i j, x = .str i ∧ y = .str j ∧ Q (.bl (decide (i.cps.toList < j.cps.toList))) H)
theorem op_ltA : OpR X (compareOp .Lt) rLtA := op_lt.or op_lt_str
theorem ow_lt : OpW S rLtA ltD := by
  intro σ H F env ad x y a b d Q sr rx ry e k
  unfold ltD at e
  split at e
  · cases rx; cases ry; cases e
    exact .inl ⟨_, _, rfl, rfl, k _ H F ad (Le.refl F) sr (.bl _)⟩
  · cases rx; cases ry; cases e
    exact .inr ⟨_, _, rfl, rfl, k _ H F ad (Le.refl F) sr (.bl _)⟩
  · cases e
theorem ow_intb {g : Int → Int → Bool} {f : D → D → Option D} (hf : ∀ a b d, f a b = some d → ∃ i j, a = .int i ∧ b = .int j ∧ d = .bl (g i j)) : OpW S (rI0 fun i j => .bl (g i j)) f := by
  intro σ H F env ad x y a b d Q sr rx ry e k
  obtain ⟨i, j, rfl, rfl, rfl⟩ := hf a b d e
  cases rx; cases ry
  exact ⟨_, _, rfl, rfl, k _ H F ad (Le.refl F) sr (.bl _)⟩
theorem ow_le : OpW S (rI0 fun i j => .bl (decide (i ≤ j))) leD := ow_intb fun a b d e => by
  unfold leD at e
  split at e
  · cases e; exact ⟨_, _, rfl, rfl, rfl⟩
  · cases e
theorem ow_gt : OpW S (rI0 fun i j => .bl (decide (j < i))) gtD := ow_intb fun a b d e => by
  unfold gtD at e
  split at e
  · cases e; exact ⟨_, _, rfl, rfl, rfl⟩
  · cases e
theorem ow_ge : OpW S (rI0 fun i j => .bl (decide (j ≤ i))) geD := ow_intb fun a b d e => by
  unfold geD at e
  split at e
  · cases e; exact ⟨_, _, rfl, rfl, rfl⟩
  · cases e
def rInA (K : PySem.W.Frag) : R2 := fun x y H Q => (∃ i j, x = .str i ∧ y = .str j ∧ Q (.bl (!(Builtin.Str.occurrences j i 0 j.length 1).isEmpty)) H) ∨ rInD K x y H Q ∨ rIn K false x y H Q
def rNinA (K : PySem.W.Frag) : R2 := fun x y H Q => (∃ i j, x = .str i ∧ y = .str j ∧ Q (.bl (!(!(Builtin.Str.occurrences j i 0 j.length 1).isEmpty))) H) ∨ rNotInD K x y H Q ∨ rIn K true x y H Q
theorem op_inA (hu : X.A.units + 65 < cLine) : OpR X (compareOp .In) (rInA X.K) := op_in_str.or ((op_inD hu).or op_in_seq)
theorem op_ninA (hu : X.A.units + 65 < cLine) : OpR X (compareOp .NotIn) (rNinA X.K) := op_notin_str.or ((op_notInD hu).or op_notIn_seq)
theorem flat_v {T : Tb} {F : Hp} {v : V} {d : D} (r : Rp T F v d) (h : flat d = true) : flatV v = true := by
  cases r <;> first | rfl | cases h
theorem flat_eq {T : Tb} {F : Hp} {v w : V} {a b : D} (r : Rp T F v a) (q : Rp T F w b) (h : flat a = true) (h2 : flat b = true) : eqV v w = a.eqv b := by
  unfold D.eqv
  cases r with
  | lst _ _ => cases h
  | tup _ _ => cases h
  | ins _ _ _ _ => cases h
  | scr _ => cases h
  | exc _ _ => cases h
  | dct _ _ _ _ => cases h
  | wd _ => cases h
  | raw _ => cases h
  | non => cases q <;> first | (simp only [D.toP, PyData.eqv, eqV]; done) | cases h2
  | bl _ => cases q <;> first | (simp only [D.toP, PyData.eqv, eqV]; done) | cases h2
  | int _ => cases q <;> first | (simp only [D.toP, PyData.eqv, eqV]; done) | cases h2
  | str _ => cases q <;> first | (simp only [D.toP, PyData.eqv, eqV]; done) | cases h2
theorem flat_all {T : Tb} {F : Hp} : ∀ {vs : List V} {ds : List D}, RpAll T F vs ds → ds.all flat = true → vs.all flatV = true
  | _, _, .nil, _ => rfl
  | _, _, .cons h t, e => by
    rw [List.all_cons, Bool.and_eq_true] at e ⊢
    exact ⟨flat_v h e.1, flat_all t e.2⟩
theorem flat_any {T : Tb} {F : Hp} {w : V} {b : D} (q : Rp T F w b) (h2 : flat b = true) : ∀ {vs : List V} {ds : List D}, RpAll T F vs ds → ds.all flat = true → (vs.any fun y => eqV y w) = ds.any fun z => z.eqv b
  | _, _, .nil, _ => rfl
  | _, _, .cons h t, e => by
    rw [List.all_cons, Bool.and_eq_true] at e
    rw [List.any_cons, List.any_cons, flat_eq h q e.1 h2, flat_any q h2 t e.2]
theorem any_toP (a : D) : ∀ ds : List D, ((toPs ds).any fun z => PyData.eqv z a.toP) = ds.any fun z => z.eqv a
  | [] => by rw [toPs]; rfl
  | d :: ds => by rw [toPs, List.any_cons, List.any_cons, any_toP a ds]; rfl
theorem ow_mem {neg : Bool} : OpW S (if neg = true then rNinA S.T.K else rInA S.T.K) (fun a b => (memD a b).map fun k => .bl (if neg = true then !k else k)) := by
  intro σ H F env ad x y a b d Q sr rx ry e k
  obtain ⟨kk, e1, e2⟩ := Option.map_eq_some_iff.mp e
  subst e2
  have kq := k _ H F ad (Le.refl F) sr (.bl _)
  unfold memD at e1
  split at e1
  · cases rx; cases ry; cases e1
    cases neg
    · exact .inl ⟨_, _, rfl, rfl, kq⟩
    · exact .inl ⟨_, _, rfl, rfl, kq⟩
  · split at e1
    · rename_i h
      rw [Bool.and_eq_true] at h
      cases e1
      have h2 := ry.dps h.2
      have s2 := h.2
      unfold D.sh at s2
      rw [D.toP] at h2 s2
      rw [← any_toP] at kq
      cases neg
      · exact .inr (.inl ⟨_, _, rx.dps h.1, h2, h.1, s2, kq⟩)
      · exact .inr (.inl ⟨_, _, rx.dps h.1, h2, h.1, s2, kq⟩)
    · cases e1
  · split at e1
    · rename_i h
      rw [Bool.and_eq_true] at h
      cases e1
      cases ry with
      | tup h1 r1 =>
        rw [← flat_any rx h.1 r1 h.2] at kq
        cases neg
        · exact .inr (.inr ⟨_, _, rfl, .inr h1, flat_v rx h.1, flat_all r1 h.2, kq⟩)
        · exact .inr (.inr ⟨_, _, rfl, .inr h1, flat_v rx h.1, flat_all r1 h.2, kq⟩)
    · cases e1
  · cases e1
theorem ow_in : OpW S (rInA S.T.K) inD := ow_mem (neg := false)
theorem ow_nin : OpW S (rNinA S.T.K) ninD := ow_mem (neg := true)
end
end DL
set_option Elab.async false
set_option linter.all false
set_option maxRecDepth 100000
set_option maxHeartbeats 2000000
namespace DL
open PySem PySem.Spec PyProof.Rows L2
section
variable {X : Cx} {S : Gd} {W : WX} {e a b c : Expr} {es : List Expr} {pos p2 : Pos} {m ma mb mc : M D} {l : M (List D)}
def eChain (f g : D → D → Option D) (ma mb mc : M D) : M D := fun env => (ma env).bind fun x e1 => (mb e1).bind fun y e2 => (lift (f x y) e2).bind fun z e3 => match z with
  | .bl true => (mc e3).bind fun w e4 => lift (g y w) e4
  | .bl false => .ok (.bl false) e3
  | _ => .bad
theorem t_chain {r r' : R2} {f g : D → D → Option D} (hf : OpW S r f) (hg : OpW S r' g) {σ : L2.St} {H : Hp} {Q : VK} (h : tD S W (eChain f g ma mb mc) σ H Q) : tChain r r' (tD S W ma) (tD S W mb) (tD S W mc) σ H Q := by
  obtain ⟨F, env, ad, sr, p⟩ := h
  refine ⟨F, env, ad, sr, p.bind.imp fun x e1 H1 F1 ad1 le1 sr1 q v1 r1 => ⟨F1, e1, ad1, sr1, q.2.bind.imp fun y e2 H2 F2 ad2 le2 sr2 q2 v2 r2 => ?_⟩⟩
  have q3 := q2.2.bind
  obtain ⟨d, e3, q4⟩ := Post.lift q3
  refine hf σ H2 F2 e2 ad2 v1 v2 x y d _ sr2 ((r1.mono le2).mono sr2.sub) (r2.mono sr2.sub) e3 fun v H3 F3 ad3 le3 sr3 r3 => ?_
  have q5 := (q4 H3 F3 ad3 le3 sr3).2
  cases r3 with
  | bl k =>
    cases k with
    | true =>
      refine ⟨true, rfl, ?_⟩
      rw [if_pos rfl]
      refine ⟨F3, e2, ad3, sr3, q5.bind.imp fun w e4 H4 F4 ad4 le4 sr4 q6 v4 r4 => ?_⟩
      obtain ⟨d2, e5, q7⟩ := Post.lift q6.2
      exact hg σ H4 F4 e4 ad4 v2 v4 y w d2 Q sr4 (((r2.mono le3).mono le4).mono sr4.sub) (r4.mono sr4.sub) e5 fun v H' F' ad' le sr' r' => q7 H' F' ad' le sr' v r'
    | false =>
      refine ⟨false, rfl, ?_⟩
      rw [if_neg Bool.false_ne_true]
      exact q5 H3 F3 ad3 (Le.refl F3) sr3 _ (.bl false)
  | non => exact q5.elim
  | int _ => exact q5.elim
  | str _ => exact q5.elim
  | lst _ _ => exact q5.elim
  | tup _ _ => exact q5.elim
  | ins _ _ _ _ => exact q5.elim
  | scr _ => exact q5.elim
  | exc _ _ => exact q5.elim
  | dct _ _ _ _ => exact q5.elim
  | wd _ => exact q5.elim
  | raw _ => exact q5.elim
theorem de_chain {op op' : CmpOp} {r r' : R2} {f g : D → D → Option D} (ho : OpR X (compareOp op) r) (ho' : OpR X (compareOp op') r') (hf : OpW S r f) (hg : OpW S r' g) (ha : PE X a (tD S W ma)) (hb : PE X b (tD S W mb)) (hc : PE X c (tD S W mc))
    (hm : lastMarks [op, op'] [b, c] = false := by with_unfolding_all rfl) : PE X (.Compare a [op, op'] [b, c] pos) (tD S W (eChain f g ma mb mc)) :=
  PE.imp (pe_chain ho ho' ha hb hc hm) fun σ H Q h => t_chain hf hg h
theorem dt_chain {op op' : CmpOp} {r r' : R2} {f g : D → D → Option D} (ho : OpR X (compareOp op) r) (ho' : OpR X (compareOp op') r') (hf : OpW S r f) (hg : OpW S r' g) (ha : PE X a (tD S W ma)) (hb : PE X b (tD S W mb)) (hc : PE X c (tD S W mc))
    (hm : lastMarks [op, op'] [b, c] = false := by with_unfolding_all rfl) : PT X (.Compare a [op, op'] [b, c] pos) (tT S W (asB (eChain f g ma mb mc))) :=
  PT.imp (pt_chain ho ho' ha hb hc hm) fun σ H Q h => t_chain hf hg (t_asB h)
def ixD : D → D → Option D
  | .lst ds, .int i => atI ds i
  | .tup ds, .int i => atI ds i
  | .scr ns, .int i => (atI ns i).map D.int
  | .str z, .int i => if z.length ≤ sizeLine then (atI z.cps.toList i).map fun k => .str ⟨#[k]⟩ else none
  | _, _ => none
theorem atI_rp {T : Tb} {F : Hp} {vs : List V} {ds : List D} {i : Int} {d : D} (r : RpAll T F vs ds) (h : atI ds i = some d) : ∃ v, atI vs i = some v ∧ Rp T F v d := by
  unfold atI at h ⊢
  rw [r.length]
  cases q : ixN ds.length i with
  | none => rw [q] at h; cases h
  | some j =>
    rw [q] at h
    exact r.get h
theorem atI_map {α β : Type} {g : α → β} {xs : List α} {i : Int} : atI (xs.map g) i = (atI xs i).map g := by
  unfold atI
  rw [List.length_map]
  cases ixN xs.length i with
  | none => rfl
  | some j => exact List.getElem?_map ..
theorem od_ix : OpD S (rIx S.T.K) ixD := by
  intro σ H F env ad x y a b d Q sr rx ry e k
  unfold ixD at e
  split at e
  · cases ry
    cases rx with
    | lst h1 r1 =>
      obtain ⟨v, e1, e2⟩ := atI_rp r1 e
      exact .inl ⟨_, _, _, v, rfl, rfl, .of (sr.sub _ _ h1), e1, k v H F ad (Le.refl F) sr e2⟩
  · cases ry
    cases rx with
    | tup h1 r1 =>
      obtain ⟨v, e1, e2⟩ := atI_rp r1 e
      exact .inr (.inl ⟨_, _, _, v, rfl, rfl, sr.sub.t h1, e1, k v H F ad (Le.refl F) sr e2⟩)
  · cases ry
    cases rx with
    | scr h1 =>
      obtain ⟨n, e1, e2⟩ := Option.map_eq_some_iff.mp e
      subst e2
      exact .inl ⟨_, _, _, .int n, rfl, rfl, sr.sub.l h1, by rw [atI_map, e1]; rfl, k _ H F ad (Le.refl F) sr (.int n)⟩
  · split at e
    · rename_i h
      cases ry
      cases rx
      obtain ⟨n, e1, e2⟩ := Option.map_eq_some_iff.mp e
      subst e2
      exact .inr (.inr ⟨_, _, n, rfl, rfl, h, e1, k _ H F ad (Le.refl F) sr (.str _)⟩)
    · cases e
  · cases e
theorem de_ix (ha : PE X a (tD S W ma)) (hb : PE X b (tD S W mb)) (hK : X.K = S.T.K := by rfl) (hs : PlainIx b := by exact fun _ _ => rfl) : PE X (.Subscript a b pos) (tD S W (eOp ixD ma mb)) :=
  PE.imp (pe_ix (ix_seq (X := X)) ha hb hs) fun σ H Q h => by
    rw [hK]
    exact t_op od_ix h
def ixV : Slot → D → Option D
  | .dat d, y => ixD d y
  | .own (.ol ds), .int i => atI ds i
  | .lent (.ol ds), .int i => atI ds i
  | _, _ => none
def eIxV (i : Nat) (mb : M D) : M D := fun env => match env[i]? with
  | some .emp => .bad
  | none => .bad
  | _ => (mb env).bind fun y e2 => match e2[i]? with
    | some s => lift (ixV s y) e2
    | none => .bad
theorem t_ixV {i : Nat} {σ : L2.St} {H : Hp} {Q : VK} (h : tD S W (eIxV i mb) σ H Q) : tOp (rIx S.T.K) (tVar i) (tD S W mb) σ H Q := by
  obtain ⟨F, env, ad, sr, p⟩ := h
  unfold eIxV at p
  have key : ∀ s, env[i]? = some s → s ≠ .emp → Post S W σ F ((mb env).bind fun y e2 => match e2[i]? with | some s => lift (ixV s y) e2 | none => .bad) (fun d _ H' F' _ => ∀ v, Rp S.T F' v d → Q v H') → tOp (rIx S.T.K) (tVar i) (tD S W mb) σ H Q := fun s q ns p2 => by
    obtain ⟨v, hv⟩ := some_of_slot sr q ns
    refine ⟨v, hv, F, env, ad, sr, p2.bind.imp fun y e2 H2 F2 ad2 le2 sr2 q2 v2 r2 => ?_⟩
    have q3 := q2.2
    cases q4 : e2[i]? with
    | none => rw [q4] at q3; exact q3.elim
    | some s2 =>
      rw [q4] at q3
      obtain ⟨d, e4, q5⟩ := Post.lift q3
      have hat := sr2.at_ i _ q4
      unfold ixV at e4
      split at e4
      · obtain ⟨_, v', hv', rx⟩ := hat
        rw [hv] at hv'
        cases hv'
        exact od_ix σ H2 F2 e2 ad2 v v2 _ y d Q sr2 rx r2 e4 fun v H' F' ad' le sr' r' => q5 H' F' ad' le sr' v r'
      · obtain ⟨b, hv', _, vs, h1, h2⟩ := hat
        rw [hv] at hv'
        cases hv'
        cases r2
        obtain ⟨u, x1, x2⟩ := atI_rp h2 e4
        exact .inl ⟨_, _, _, u, rfl, rfl, .of h1, x1, q5 H2 F2 ad2 (Le.refl F2) sr2 u x2⟩
      · obtain ⟨b, hv', _, vs, h1, h2⟩ := hat
        rw [hv] at hv'
        cases hv'
        cases r2
        obtain ⟨u, x1, x2⟩ := atI_rp h2 e4
        exact .inl ⟨_, _, _, u, rfl, rfl, .of h1, x1, q5 H2 F2 ad2 (Le.refl F2) sr2 u x2⟩
      · cases e4
  cases q : env[i]? with
  | none => rw [q] at p; exact p.elim
  | some s =>
    rw [q] at p
    cases s with
    | emp => exact p.elim
    | dat d => exact key _ q (by intro z; cases z) p
    | own o => exact key _ q (by intro z; cases z) p
    | lent o => exact key _ q (by intro z; cases z) p
theorem de_ixV (i : Nat) (ha : PE X a (tVar i)) (hb : PE X b (tD S W mb)) (hK : X.K = S.T.K := by rfl) (hs : PlainIx b := by exact fun _ _ => rfl) : PE X (.Subscript a b pos) (tD S W (eIxV i mb)) :=
  PE.imp (pe_ix (ix_seq (X := X)) ha hb hs) fun σ H Q h => by
    rw [hK]
    exact t_ixV h
def tP (S : Gd) (W : WX) (m : M (Option Int)) : TO := fun σ H Q => ∃ F env ad, SR S σ H F env ad ∧ Post S W σ F (m env) fun o _ H' _ _ => Q o H'
def pNo : M (Option Int) := fun env => .ok none env
def pSo (m : M D) : M (Option Int) := fun env => (m env).bind fun d e => match d with
  | .int i => .ok (some i) e
  | _ => .bad
theorem dp_no : PO X none (tP S W pNo) := ⟨fun pins s σ H Q I h => (po_none (X := X)).run pins s σ H Q I (by
  obtain ⟨F, env, ad, sr, p⟩ := h
  exact p H F ad (Le.refl F) sr)⟩
theorem dp_so (h : PE X e (tD S W m)) : PO X (some e) (tP S W (pSo m)) := ⟨fun pins s σ H Q I q => (po_some h).run pins s σ H Q I (by
  obtain ⟨F, env, ad, sr, p⟩ := q
  refine ⟨F, env, ad, sr, p.bind.imp fun d e1 H1 F1 ad1 le1 sr1 q v r => ?_⟩
  have q2 := q.2
  cases r with
  | int i => exact ⟨i, rfl, q2 H1 F1 ad1 (Le.refl F1) sr1⟩
  | non => exact q2.elim
  | bl _ => exact q2.elim
  | str _ => exact q2.elim
  | lst _ _ => exact q2.elim
  | tup _ _ => exact q2.elim
  | ins _ _ _ _ => exact q2.elim
  | scr _ => exact q2.elim
  | exc _ _ => exact q2.elim
  | dct _ _ _ _ => exact q2.elim
  | wd _ => exact q2.elim
  | raw _ => exact q2.elim)⟩
def cutD (ds : List D) (lo hi : Option Int) : List D := (ds.drop (HT.sIx ds.length 0 lo)).take (HT.sIx ds.length ds.length hi - HT.sIx ds.length 0 lo)
theorem cut_rp {T : Tb} {F : Hp} {vs : List V} {ds : List D} {lo hi : Option Int} (r : RpAll T F vs ds) : RpAll T F (cutV vs lo hi) (cutD ds lo hi) := by
  unfold cutV cutD
  rw [r.length]
  exact (r.drop _).take _
def slD : D → Option Int → Option Int → Option D
  | .str z, lo, hi => if z.length ≤ sizeLine then some (.str (cutS z lo hi)) else none
  | .lst ds, lo, hi => some (.lst (cutD ds lo hi))
  | .tup ds, lo, hi => some (.tup (cutD ds lo hi))
  | _, _, _ => none
def rSlAll (K : PySem.W.Frag) : V → Option Int → Option Int → Hp → VK → Prop := fun x lo hi H Q => rSlS x lo hi H Q ∨ rSlL K x lo hi H Q ∨ rSlA K x lo hi H Q
theorem sl_all : SlR X (rSlAll X.K) := sl_str.or (sl_list.or sl_tupA)
def eSl (m : M D) (lo hi : M (Option Int)) : M D := fun env => (m env).bind fun x e1 => (lo e1).bind fun l e2 => (hi e2).bind fun h e3 => lift (slD x l h) e3
theorem de_slice {lo hi : Option Expr} {ml mh : M (Option Int)} (he : PE X e (tD S W m)) (hl : PO X lo (tP S W ml)) (hh : PO X hi (tP S W mh)) (hK : X.K = S.T.K := by rfl) : PE X (.Subscript e (.Slice lo hi none p2) pos) (tD S W (eSl m ml mh)) :=
  PE.imp (pe_slice sl_all he hl hh) fun σ H Q ⟨F, env, ad, sr, p⟩ => ⟨F, env, ad, sr, p.bind.imp fun x e1 H1 F1 ad1 le1 sr1 q v r => ⟨F1, e1, ad1, sr1, q.2.bind.imp fun lo e2 H2 F2 ad2 le2 sr2 q2 => ⟨F2, e2, ad2, sr2, q2.2.bind.imp fun hi e3 H3 F3 ad3 le3 sr3 q3 => by
    obtain ⟨d, e4, q4⟩ := Post.lift q3.2
    have rx := (r.mono le2).mono le3
    rw [hK]
    unfold slD at e4
    split at e4
    · split at e4
      · rename_i h
        cases rx; cases e4
        exact .inl ⟨_, rfl, h, q4 H3 F3 ad3 (Le.refl F3) sr3 _ (.str _)⟩
      · cases e4
    · cases e4
      cases rx with
      | lst h1 r1 =>
        refine .inr (.inl ⟨_, _, rfl, .of (sr3.sub _ _ h1), fun p hp => ?_⟩)
        obtain ⟨F', le, sr', r'⟩ := sr3.newLst (cut_rp r1) hp
        exact q4 _ F' ad3 le sr' _ r'
    · cases e4
      cases rx with
      | tup h1 r1 =>
        refine .inr (.inr ⟨_, _, rfl, sr3.sub.t h1, fun z => ?_, fun _ p hp => ?_⟩)
        · have e5 : ∀ ds : List D, ds.length = _ → cutD ds lo hi = ds := fun ds hd => by
            unfold cutD
            rw [hd, z.1, z.2]
            rw [List.drop_zero, Nat.sub_zero, List.take_of_length_le (Nat.le_of_eq hd)]
          rw [e5 _ r1.length.symm] at q4
          exact q4 H3 F3 ad3 (Le.refl F3) sr3 _ (.tup h1 r1)
        · obtain ⟨F', le, sr', r'⟩ := sr3.newTup (cut_rp r1) hp
          exact q4 _ F' ad3 le sr' _ r'
    · cases e4⟩⟩⟩
def revD : D → Option D
  | .lst ds => some (.lst ds.reverse)
  | _ => none
theorem de_rev {k : Nat} {p1 p2 p3 : Pos} (he : PE X e (tD S W m)) (hK : X.K = S.T.K := by rfl) : PE X (.Subscript e (.Slice none none (some (.UnaryOp .USub (.Constant (.int 1) k p1) p2)) p3) pos) (tD S W (eUn revD m)) :=
  PE.imp (pe_revL he) fun σ H Q ⟨F, env, ad, sr, p⟩ => ⟨F, env, ad, sr, p.bind.imp fun x e1 H1 F1 ad1 le1 sr1 q v r => by
    obtain ⟨d, e4, q4⟩ := Post.lift q.2
    rw [hK]
    unfold revD at e4
    split at e4
    · cases e4
      cases r with
      | lst h1 r1 =>
        refine ⟨_, _, rfl, .of (sr1.sub _ _ h1), fun p hp => ?_⟩
        obtain ⟨F', le, sr', r'⟩ := sr1.newLst r1.reverse hp
        exact q4 _ F' ad1 le sr' _ r'
    · cases e4⟩
def CallD (S : Gd) (r : List V → Hp → VK → Prop) (f : List D → Option D) : Prop := ∀ (σ : L2.St) (H F : Hp) (env : Env) (ad : Nat → List Addr) (xs : List V) (ds : List D) (d : D) (Q : VK), SR S σ H F env ad → RpAll S.T F xs ds → f ds = some d →
  (∀ v H' F' ad', Le F F' → SR S σ H' F' env ad' → Rp S.T F' v d → Q v H') → r xs H Q
def eCall (f : List D → Option D) (l : M (List D)) : M D := fun env => (l env).bind fun ds e => lift (f ds) e
theorem t_cb {r : List V → Hp → VK → Prop} {f : List D → Option D} (hd : CallD S r f) {σ : L2.St} {H : Hp} {Q : VK} (h : tD S W (eCall f l) σ H Q) : tCB r (tL S W l) σ H Q := by
  obtain ⟨F, env, ad, sr, p⟩ := h
  refine ⟨F, env, ad, sr, p.bind.imp fun ds e1 H1 F1 ad1 le1 sr1 q vs rs => ?_⟩
  obtain ⟨d, e3, q3⟩ := Post.lift q.2
  exact hd σ H1 F1 e1 ad1 vs ds d Q sr1 rs e3 fun v H' F' ad' le sr' r' => q3 H' F' ad' le sr' v r'
theorem de_callB {id : String} {x : Str} {p : Pos} {r : List V → Hp → VK → Prop} {f : List D → Option D} (hc : CallR X (.builtin id) r) (hd : CallD S r f) (hg : Gl X x) (hm : X.mg x = none) (hv : bootBuiltins x = some (.builtin id)) (ha : PA X (e :: es) (tL S W l))
    (hn : x ≠ "__name__" := by decide) (hdb : (x == ("__debug__" : Str)) = false := by decide) (he : starEach (e :: es) X.env = (false, eval e X.env) :: starEach es X.env := by exact star_ok _ _ _ rfl) (hpl : (backTo pos (starEach es X.env)).any (·.1) = false := by rfl) : PE X (.Call (.Name x p) (e :: es) [] pos) (tD S W (eCall f l)) :=
  PE.imp (pe_callB hc hg hm hv ha hn hdb he hpl) fun σ H Q h => t_cb hd h
theorem de_callTy {id : String} {x : Str} {p : Pos} {r : List V → Hp → VK → Prop} {f : List D → Option D} (hc : CallR X (.type id) r) (hd : CallD S r f) (hg : Gl X x) (hm : X.mg x = none) (hv : bootBuiltins x = some (.type id)) (ha : PA X (e :: es) (tL S W l))
    (hn : x ≠ "__name__" := by decide) (hdb : (x == ("__debug__" : Str)) = false := by decide) (he : starEach (e :: es) X.env = (false, eval e X.env) :: starEach es X.env := by exact star_ok _ _ _ rfl) (hpl : (backTo pos (starEach es X.env)).any (·.1) = false := by rfl) : PE X (.Call (.Name x p) (e :: es) [] pos) (tD S W (eCall f l)) :=
  PE.imp (pe_callTy hc hg hm hv ha hn hdb he hpl) fun σ H Q h => t_cb hd h
end
end DL
set_option Elab.async false
set_option linter.all false
set_option maxRecDepth 100000
set_option maxHeartbeats 2000000
namespace DL
open PySem PySem.Spec PyProof.Rows L2
section
variable {X : Cx} {S : Gd} {W : WX} {e a b c : Expr} {es : List Expr} {pos p p2 : Pos} {m ma mb mc : M D} {l : M (List D)}
def lenD : D → Option D
  | .str z => if z.length ≤ sizeLine then some (.int z.length) else none
  | .lst ds => some (.int ds.length)
  | .tup ds => some (.int ds.length)
  | .scr ns => some (.int ns.length)
  | _ => none
theorem de_len (ha : PE X a (tW S W m)) (hg : Gl X "len") (hm : X.mg "len" = none) (hK : X.K = S.T.K := by rfl) (he : starEach [a] X.env = (false, eval a X.env) :: starEach [] X.env := by rfl) : PE X (.Call (.Name "len" p) [a] [] pos) (tD S W (eUn lenD m)) :=
  PE.imp (pe_callB call_len hg hm boot_len (pa_cons ha pa_nil he) (by decide) (by decide) he (by rfl)) fun σ H Q ⟨F, env, ad, sr, p⟩ => ⟨F, env, ad, sr, p.bind.imp fun x e1 H1 F1 ad1 le1 sr1 q v r => by
    obtain ⟨d, e4, q4⟩ := Post.lift q.2
    rw [hK]
    unfold lenD at e4
    split at e4
    · split at e4
      · rename_i h
        cases r; cases e4
        exact ⟨_, _, rfl, ⟨h, rfl⟩, q4 H1 F1 ad1 (Le.refl F1) sr1 _ (.int _)⟩
      · cases e4
    · cases e4
      cases r with
      | lst h1 r1 =>
        rw [← r1.length] at q4
        exact ⟨_, _, rfl, .inl ⟨_, .of h1, rfl⟩, q4 H1 F1 ad1 (Le.refl F1) sr1 _ (.int _)⟩
    · cases e4
      cases r with
      | tup h1 r1 =>
        rw [← r1.length] at q4
        exact ⟨_, _, rfl, .inr ⟨_, h1, rfl⟩, q4 H1 F1 ad1 (Le.refl F1) sr1 _ (.int _)⟩
    · cases e4
      cases r with
      | scr h1 =>
        exact ⟨_, _, rfl, .inl ⟨_, h1, (List.length_map ..).symm⟩, q4 H1 F1 ad1 (Le.refl F1) sr1 _ (.int _)⟩
    · cases e4⟩
def tyN : D → Option String
  | .non => some "NoneType"
  | .bl _ => some "bool"
  | .int _ => some "int"
  | .str _ => some "str"
  | .lst _ => some "list"
  | .tup _ => some "tuple"
  | .scr _ => some "list"
  | .ins _ _ _ => none
  | .raw _ => none
  | .exc _ => none
  | .dct _ _ => none
  | .wd _ => none
def isiT (t T : String) : Bool := t == T || (t == "bool" && T == "int")
def isiD (T : String) (d : D) : Option D := (tyN d).map fun t => .bl (isiT t T)
theorem SqT.ty {K : PySem.W.Frag} {H : Hp} {a : Addr} {xs : List V} (h : SqT K H a xs) : TyX K H (.ref a) (.type "tuple") := by
  rcases h with (h | ⟨o, h⟩) | ⟨o, its, n, h1, h2, _⟩
  · exact .base (.tup h)
  · exact .fTuple h
  · exact .kTuple h1 h2
theorem SqL.ty {K : PySem.W.Frag} {H : Hp} {a : Addr} {xs : List V} (h : SqL K H a xs) : TyX K H (.ref a) (.type "list") := by
  rcases h with (h | ⟨o, h⟩) | ⟨o, its, n, h1, h2, _⟩
  · exact .base (.lst h)
  · exact .base (.frz h)
  · exact .kList h1 h2
theorem rp_ty {T : Tb} {F : Hp} {v : V} {d : D} {t : String} (r : Rp T F v d) (h : tyN d = some t) : TyX T.K F v (.type t) := by
  cases r with
  | non => cases h; exact .base .non
  | bl b => cases h; exact .base (.bl b)
  | int i => cases h; exact .base (.int i)
  | str x => cases h; exact .base (.str x)
  | lst h1 _ => cases h; exact SqL.ty (.of h1)
  | tup h1 _ => cases h; exact SqT.ty h1
  | ins _ _ _ _ => cases h
  | scr h1 => cases h; exact SqL.ty h1
  | exc _ _ => cases h
  | dct _ _ _ _ => cases h
  | wd _ => cases h
  | raw _ => cases h
def isiOk (T : String) : Bool := ["NoneType", "bool", "int", "str", "list", "tuple"].all fun t => decide (kitB t T = some (isiT t T))
theorem isi_int : isiOk "int" = true := by decide +kernel
theorem isi_bool : isiOk "bool" = true := by decide +kernel
theorem isi_str : isiOk "str" = true := by decide +kernel
theorem isi_tuple : isiOk "tuple" = true := by decide +kernel
theorem isi_of {T t : String} {d : D} (h : isiOk T = true) (e : tyN d = some t) : kitB t T = some (isiT t T) := by
  unfold isiOk at h
  rw [List.all_eq_true] at h
  refine of_decide_eq_true (h t ?_)
  cases d <;> cases e <;> simp
theorem de_isi {x T : Str} {n : String} {px : Pos} (ok : isiOk n = true) (ha : PE X a (tD S W m)) (hg : Gl X "isinstance") (hm : X.mg "isinstance" = none) (hgT : Gl X T) (hmT : X.mg T = none) (hT : bootBuiltins T = some (.type n)) (hnT : T ≠ "__name__" := by decide) (hdT : (T == ("__debug__" : Str)) = false := by decide) (hK : X.K = S.T.K := by rfl)
    (he : starEach [a, .Name T px] X.env = (false, eval a X.env) :: starEach [.Name T px] X.env := by rfl) (he2 : starEach [.Name T px] X.env = (false, eval (.Name T px) X.env) :: starEach [] X.env := by rfl)
    (hpl : (backTo pos (starEach [.Name T px] X.env)).any (·.1) = false := by rfl) : PE X (.Call (.Name "isinstance" p) [a, .Name T px] [] pos) (tD S W (eUn (isiD n) m)) :=
  PE.imp (pe_callB call_isi hg hm (by decide +kernel) (pa_cons ha (pa_cons (pe_bltn (v := .ty n) hgT hmT hT rfl hnT hdT) pa_nil he2) he) (by decide) (by decide) he hpl) fun σ H Q ⟨F, env, ad, sr, p⟩ => ⟨F, env, ad, sr, p.bind.imp fun d e1 H1 F1 ad1 le1 sr1 q v r => by
    obtain ⟨d2, e4, q4⟩ := Post.lift q.2
    rw [hK]
    obtain ⟨t, e5, e6⟩ := Option.map_eq_some_iff.mp e4
    subst e6
    exact ⟨_, _, _, _, _, rfl, .ty n, rp_ty (r.mono sr1.sub) e5, kit_ty (isi_of ok e5), q4 H1 F1 ad1 (Le.refl F1) sr1 _ (.bl _)⟩⟩
def blsD : List D → Option (List Bool)
  | [] => some []
  | .bl b :: r => (blsD r).map (b :: ·)
  | _ => none
theorem bls_rp {T : Tb} {F : Hp} : ∀ {vs : List V} {ds : List D} {bs : List Bool}, RpAll T F vs ds → blsD ds = some bs → vs = bs.map V.bl
  | _, _, _, .nil, e => by cases e; rfl
  | _, _, _, .cons (v := v) (d := d) h t, e => by
    unfold blsD at e
    split at e
    · cases e; rename_i q; cases q
    · rename_i q
      cases q
      obtain ⟨bs', e1, e2⟩ := Option.map_eq_some_iff.mp e
      subst e2
      cases h
      rw [bls_rp t e1]
      rfl
    · cases e
def intsD : List D → Option (List Int)
  | [] => some []
  | .int b :: r => (intsD r).map (b :: ·)
  | _ => none
theorem ints_rp {T : Tb} {F : Hp} : ∀ {vs : List V} {ds : List D} {ns : List Int}, RpAll T F vs ds → intsD ds = some ns → vs = ns.map V.int
  | _, _, _, .nil, e => by cases e; rfl
  | _, _, _, .cons (v := v) (d := d) h t, e => by
    unfold intsD at e
    split at e
    · cases e; rename_i q; cases q
    · rename_i q
      cases q
      obtain ⟨bs', e1, e2⟩ := Option.map_eq_some_iff.mp e
      subst e2
      cases h
      rw [ints_rp t e1]
      rfl
    · cases e
def allD : List D → Option D
  | [.lst ds] => (blsD ds).map fun bs => .bl (bs.all id)
  | _ => none
def anyD : List D → Option D
  | [.lst ds] => (blsD ds).map fun bs => .bl (bs.any id)
  | _ => none
def sumD : List D → Option D
  | [.lst ds] => (intsD ds).map fun ns => .int ns.sum
  | _ => none
theorem cd_all : CallD S (rAll S.T.K) allD := by
  intro σ H F env ad xs ds d Q sr r e k
  unfold allD at e
  split at e
  · obtain ⟨bs, e1, e2⟩ := Option.map_eq_some_iff.mp e
    subst e2
    cases r with
    | cons h t =>
      cases t
      cases h with
      | lst h1 r1 =>
        have e3 := bls_rp r1 e1
        subst e3
        exact ⟨_, bs, rfl, .of (sr.sub _ _ h1), k _ H F ad (Le.refl F) sr (.bl _)⟩
  · cases e
theorem cd_any : CallD S (rAny S.T.K) anyD := by
  intro σ H F env ad xs ds d Q sr r e k
  unfold anyD at e
  split at e
  · obtain ⟨bs, e1, e2⟩ := Option.map_eq_some_iff.mp e
    subst e2
    cases r with
    | cons h t =>
      cases t
      cases h with
      | lst h1 r1 =>
        have e3 := bls_rp r1 e1
        subst e3
        exact ⟨_, bs, rfl, .of (sr.sub _ _ h1), k _ H F ad (Le.refl F) sr (.bl _)⟩
  · cases e
theorem cd_sum : CallD S (rSum S.T.K) sumD := by
  intro σ H F env ad xs ds d Q sr r e k
  unfold sumD at e
  split at e
  · obtain ⟨bs, e1, e2⟩ := Option.map_eq_some_iff.mp e
    subst e2
    cases r with
    | cons h t =>
      cases t
      cases h with
      | lst h1 r1 =>
        have e3 := ints_rp r1 e1
        subst e3
        exact ⟨_, bs, rfl, .of (sr.sub _ _ h1), k _ H F ad (Le.refl F) sr (.int _)⟩
  · cases e
def maxL : List Int → Option Int
  | [] => none
  | n :: r => some (r.foldl max n)
def minL : List Int → Option Int
  | [] => none
  | n :: r => some (r.foldl min n)
theorem foldl_max_spec : ∀ (r : List Int) (n : Int), (r.foldl max n = n ∨ r.foldl max n ∈ r) ∧ n ≤ r.foldl max n ∧ ∀ y ∈ r, y ≤ r.foldl max n
  | [], n => ⟨.inl rfl, Int.le_refl _, fun y h => by cases h⟩
  | x :: r, n => by
    obtain ⟨h1, h2, h3⟩ := foldl_max_spec r (max n x)
    refine ⟨?_, Int.le_trans (Int.le_max_left ..) h2, fun y hy => ?_⟩
    · rcases h1 with h1 | h1
      · rw [List.foldl_cons, h1]
        rcases Int.le_total n x with z | z
        · rw [Int.max_eq_right z]; exact .inr (List.mem_cons_self ..)
        · rw [Int.max_eq_left z]; exact .inl rfl
      · exact .inr (List.mem_cons_of_mem _ h1)
    · rcases List.mem_cons.mp hy with z | z
      · rw [z]; exact Int.le_trans (Int.le_max_right ..) h2
      · exact h3 y z
theorem foldl_min_spec : ∀ (r : List Int) (n : Int), (r.foldl min n = n ∨ r.foldl min n ∈ r) ∧ r.foldl min n ≤ n ∧ ∀ y ∈ r, r.foldl min n ≤ y
  | [], n => ⟨.inl rfl, Int.le_refl _, fun y h => by cases h⟩
  | x :: r, n => by
    obtain ⟨h1, h2, h3⟩ := foldl_min_spec r (min n x)
    refine ⟨?_, Int.le_trans h2 (Int.min_le_left ..), fun y hy => ?_⟩
    · rcases h1 with h1 | h1
      · rw [List.foldl_cons, h1]
        rcases Int.le_total n x with z | z
        · rw [Int.min_eq_left z]; exact .inl rfl
        · rw [Int.min_eq_right z]; exact .inr (List.mem_cons_self ..)
      · exact .inr (List.mem_cons_of_mem _ h1)
    · rcases List.mem_cons.mp hy with z | z
      · rw [z]; exact Int.le_trans h2 (Int.min_le_right ..)
      · exact h3 y z
theorem maxL_spec {ns : List Int} {n : Int} (h : maxL ns = some n) : n ∈ ns ∧ ∀ y ∈ ns, y ≤ n := by
  cases ns with
  | nil => cases h
  | cons x r =>
    cases h
    obtain ⟨h1, h2, h3⟩ := foldl_max_spec r x
    refine ⟨?_, fun y hy => ?_⟩
    · rcases h1 with z | z
      · exact List.mem_cons.mpr (.inl z)
      · exact List.mem_cons_of_mem _ z
    · rcases List.mem_cons.mp hy with z | z
      · rw [z]; exact h2
      · exact h3 y z
theorem minL_spec {ns : List Int} {n : Int} (h : minL ns = some n) : n ∈ ns ∧ ∀ y ∈ ns, n ≤ y := by
  cases ns with
  | nil => cases h
  | cons x r =>
    cases h
    obtain ⟨h1, h2, h3⟩ := foldl_min_spec r x
    refine ⟨?_, fun y hy => ?_⟩
    · rcases h1 with z | z
      · exact List.mem_cons.mpr (.inl z)
      · exact List.mem_cons_of_mem _ z
    · rcases List.mem_cons.mp hy with z | z
      · rw [z]; exact h2
      · exact h3 y z
def maxD : List D → Option D
  | [.lst ds] => ((intsD ds).bind maxL).map D.int
  | [.int i, .int j] => some (.int (if j > i then j else i))
  | _ => none
def minD : List D → Option D
  | [.lst ds] => ((intsD ds).bind minL).map D.int
  | [.int i, .int j] => some (.int (if j < i then j else i))
  | _ => none
def rMaxA (K : PySem.W.Frag) : List V → Hp → VK → Prop := fun xs H Q => rMax K xs H Q ∨ ∃ i j, xs = [.int i, .int j] ∧ Q (.int (if j > i then j else i)) H
def rMinA (K : PySem.W.Frag) : List V → Hp → VK → Prop := fun xs H Q => rMin K xs H Q ∨ ∃ i j, xs = [.int i, .int j] ∧ Q (.int (if j < i then j else i)) H
theorem cr_maxA (hc : X.calm = true) : CallR X (.builtin "max") (rMaxA X.K) := (cr_max hc).or (call_max2 hc)
theorem cr_minA (hc : X.calm = true) : CallR X (.builtin "min") (rMinA X.K) := (cr_min hc).or (call_min2 hc)
theorem cd_max : CallD S (rMaxA S.T.K) maxD := by
  intro σ H F env ad xs ds d Q sr r e k
  unfold maxD at e
  split at e
  · obtain ⟨n, e1, e2⟩ := Option.map_eq_some_iff.mp e
    obtain ⟨ns, e3, e4⟩ := Option.bind_eq_some_iff.mp e1
    subst e2
    cases r with
    | cons h t =>
      cases t
      cases h with
      | lst h1 r1 =>
        have e5 := ints_rp r1 e3
        subst e5
        obtain ⟨m1, m2⟩ := maxL_spec e4
        refine .inl ⟨_, ns, rfl, .of (sr.sub _ _ h1), List.length_pos_of_mem m1, fun m' hm hmax => ?_⟩
        have e6 : m' = n := Int.le_antisymm (m2 m' hm) (hmax n m1)
        rw [e6]
        exact k _ H F ad (Le.refl F) sr (.int _)
  · cases e
    cases r with
    | cons h t =>
      cases t with
      | cons h2 t2 =>
        cases t2; cases h; cases h2
        exact .inr ⟨_, _, rfl, k _ H F ad (Le.refl F) sr (.int _)⟩
  · cases e
theorem cd_min : CallD S (rMinA S.T.K) minD := by
  intro σ H F env ad xs ds d Q sr r e k
  unfold minD at e
  split at e
  · obtain ⟨n, e1, e2⟩ := Option.map_eq_some_iff.mp e
    obtain ⟨ns, e3, e4⟩ := Option.bind_eq_some_iff.mp e1
    subst e2
    cases r with
    | cons h t =>
      cases t
      cases h with
      | lst h1 r1 =>
        have e5 := ints_rp r1 e3
        subst e5
        obtain ⟨m1, m2⟩ := minL_spec e4
        refine .inl ⟨_, ns, rfl, .of (sr.sub _ _ h1), List.length_pos_of_mem m1, fun m' hm hmax => ?_⟩
        have e6 : m' = n := Int.le_antisymm (hmax n m1) (m2 m' hm)
        rw [e6]
        exact k _ H F ad (Le.refl F) sr (.int _)
  · cases e
    cases r with
    | cons h t =>
      cases t with
      | cons h2 t2 =>
        cases t2; cases h; cases h2
        exact .inr ⟨_, _, rfl, k _ H F ad (Le.refl F) sr (.int _)⟩
  · cases e
def listD : List D → Option D
  | [.lst ds] => some (.lst ds)
  | [.tup ds] => some (.lst ds)
  | _ => none
def tupleD : List D → Option D
  | [.lst ds] => some (.tup ds)
  | [.tup ds] => some (.tup ds)
  | _ => none
theorem cd_list : CallD S (fun xs H Q => ∃ p ys, xs = [.ref p] ∧ (SqL S.T.K H p ys ∨ SqT S.T.K H p ys) ∧ ∀ l, H l = none → Q (.ref l) (upd H l (.lst ys))) listD := by
  intro σ H F env ad xs ds d Q sr r e k
  unfold listD at e
  split at e
  · cases e
    cases r with
    | cons h t =>
      cases t
      cases h with
      | lst h1 r1 =>
        refine ⟨_, _, rfl, .inl (.of (sr.sub _ _ h1)), fun b hb => ?_⟩
        obtain ⟨F', le, sr', r'⟩ := sr.newLst r1 hb
        exact k _ _ F' ad le sr' r'
  · cases e
    cases r with
    | cons h t =>
      cases t
      cases h with
      | tup h1 r1 =>
        refine ⟨_, _, rfl, .inr (sr.sub.t h1), fun b hb => ?_⟩
        obtain ⟨F', le, sr', r'⟩ := sr.newLst r1 hb
        exact k _ _ F' ad le sr' r'
  · cases e
theorem cd_tuple : CallD S (fun xs H Q => ∃ p ys, xs = [.ref p] ∧ ((SqL S.T.K H p ys ∧ ∀ l, H l = none → Q (.ref l) (upd H l (.tup ys))) ∨ (SqT S.T.K H p ys ∧ Q (.ref p) H))) tupleD := by
  intro σ H F env ad xs ds d Q sr r e k
  unfold tupleD at e
  split at e
  · cases e
    cases r with
    | cons h t =>
      cases t
      cases h with
      | lst h1 r1 =>
        refine ⟨_, _, rfl, .inl ⟨.of (sr.sub _ _ h1), fun b hb => ?_⟩⟩
        obtain ⟨F', le, sr', r'⟩ := sr.newTup r1 hb
        exact k _ _ F' ad le sr' r'
  · cases e
    cases r with
    | cons h t =>
      cases t
      cases h with
      | tup h1 r1 => exact ⟨_, _, rfl, .inr ⟨sr.sub.t h1, k _ H F ad (Le.refl F) sr (.tup h1 r1)⟩⟩
  · cases e
end
structure Kl (T : Tb) (c : Str) (fs : List Str) : Prop where
  ex : ∃ C, T.cls c = some C ∧ Cls T.K C ∧ ∀ f ∈ fs, NoAttr T.K C f
section
variable {X : Cx} {S : Gd} {W : WX} {e a b : Expr} {pos : Pos} {m : M D}
def fldD (c f : Str) : D → Option D
  | .ins c' ns ds => if c' = c then (ns.zip ds).lookup f else none
  | _ => none
theorem lookup_rp {T : Tb} {F : Hp} {f : Str} : ∀ {fs : List (Str × V)} {ds : List D} {d : D}, RpAll T F (fs.map (·.2)) ds → ((fs.map (·.1)).zip ds).lookup f = some d → ∃ v, fs.lookup f = some v ∧ Rp T F v d
  | [], _, _, _, e => by simp at e
  | (x, v) :: r, _, d, .cons h t, e => by
    rw [List.map_cons, List.zip_cons_cons, List.lookup_cons] at e
    rw [List.lookup_cons]
    cases q : (f == x) with
    | true =>
      rw [q] at e
      cases e
      exact ⟨v, rfl, h⟩
    | false =>
      rw [q] at e
      exact lookup_rp t e
theorem de_fld {c f : Str} {fs : List Str} (kl : Kl S.T c fs) (hf : f ∈ fs) (ha : PE X a (tD S W m)) (hK : X.K = S.T.K := by rfl) (hb : attributeBase a f X.env (eval a X.env) = eval a X.env := by rfl) : PE X (.Attribute a f pos) (tD S W (eUn (fldD c f) m)) :=
  PE.imp (pe_fld ha hb) fun σ H Q ⟨F, env, ad, sr, p⟩ => ⟨F, env, ad, sr, p.bind.imp fun x e1 H1 F1 ad1 le1 sr1 q v r => by
    obtain ⟨d, e4, q4⟩ := Post.lift q.2
    obtain ⟨C, k1, k2, k3⟩ := kl.ex
    rw [hK]
    unfold fldD at e4
    split at e4
    · split at e4
      · rename_i h
        subst h
        cases r with
        | ins c1 h1 n1 r1 =>
          rw [k1] at c1
          cases c1
          subst n1
          obtain ⟨u, e5, e6⟩ := lookup_rp r1 e4
          exact ⟨_, _, _, _, u, rfl, sr1.sub _ _ h1, k2, k3 f hf, e5, q4 H1 F1 ad1 (Le.refl F1) sr1 u e6⟩
      · cases e4
    · cases e4⟩
def fldS (c f : Str) : Slot → Option D
  | .dat d => fldD c f d
  | .own (.oi c' fs) => if c' = c then (match fs.lookup f with | some (.d x) => some x | _ => none) else none
  | .lent (.oi c' fs) => if c' = c then (match fs.lookup f with | some (.d x) => some x | _ => none) else none
  | _ => none
def eFldV (c f : Str) (i : Nat) : M D := fun env => match env[i]? with
  | some s => lift (fldS c f s) env
  | none => .bad
theorem fldAt_d {T : Tb} {F H : Hp} {f : Str} {d : D} : ∀ {us : List (Str × V)} {fs : List (Str × FS)} {qs : List Addr}, FldAt T F H us fs qs → fs.lookup f = some (.d d) → ∃ v, us.lookup f = some v ∧ Rp T F v d
  | [], [], _, _, e => by simp at e
  | [], _ :: _, _, h, _ => h.elim
  | _ :: _, [], _, h, _ => h.elim
  | (x, v) :: r, (y, .d d') :: s, qs, h, e => by
    obtain ⟨rfl, h2, h3⟩ := h
    rw [List.lookup_cons] at e ⊢
    cases q : (f == x) with
    | true =>
      rw [q] at e
      cases e
      exact ⟨v, rfl, h2⟩
    | false =>
      rw [q] at e
      exact fldAt_d h3 e
  | (x, v) :: r, (y, .l ds) :: s, qs, h, e => by
    obtain ⟨rfl, q, qs', vs, rfl, h2, h3, h4, h5⟩ := h
    rw [List.lookup_cons] at e ⊢
    cases q : (f == x) with
    | true =>
      rw [q] at e
      cases e
    | false =>
      rw [q] at e
      exact fldAt_d h5 e
  | (x, v) :: r, (y, .t ks xs) :: s, qs, h, e => by
    obtain ⟨rfl, q, qs', rfl, h2, h3, h5⟩ := h
    rw [List.lookup_cons] at e ⊢
    cases q : (f == x) with
    | true =>
      rw [q] at e
      cases e
    | false =>
      rw [q] at e
      exact fldAt_d h5 e
theorem de_fldV {c f : Str} {fs : List Str} (i : Nat) (kl : Kl S.T c fs) (hf : f ∈ fs) (ha : PE X a (tVar i)) (hK : X.K = S.T.K := by rfl) (hb : attributeBase a f X.env (eval a X.env) = eval a X.env := by rfl) : PE X (.Attribute a f pos) (tD S W (eFldV c f i)) :=
  PE.imp (pe_fld ha hb) fun σ H Q ⟨F, env, ad, sr, p⟩ => by
    obtain ⟨C, k1, k2, k3⟩ := kl.ex
    rw [hK]
    unfold eFldV at p
    cases q : env[i]? with
    | none => rw [q] at p; exact p.elim
    | some s =>
      rw [q] at p
      obtain ⟨d, e4, q4⟩ := Post.lift p
      have hat := sr.at_ i _ q
      have own : ∀ (c' : Str) (gs : List (Str × FS)), (∃ p, σ[i]? = some (some (.ref p)) ∧ OwnAt S.T F H p (.oi c' gs) (ad i)) → (if c' = c then (match gs.lookup f with | some (.d x) => some x | _ => none) else none) = some d → tFld S.T.K (tVar i) f σ H Q := fun c' gs hat e9 => by
        split at e9
        · rename_i h
          subst h
          obtain ⟨b, e1, C', dx, us, qs, c1, _, h1, _, h3⟩ := hat
          rw [k1] at c1
          cases c1
          split at e9
          · rename_i x hx
            cases e9
            obtain ⟨u, e5, e6⟩ := fldAt_d h3.1 hx
            exact ⟨_, e1, _, _, _, _, u, rfl, h1, k2, k3 f hf, e5, q4 H F ad (Le.refl F) sr u e6⟩
          · cases e9
        · cases e9
      cases s with
      | emp => cases e4
      | dat x =>
        obtain ⟨_, v, e1, r⟩ := hat
        have e5 : fldD c f x = some d := e4
        unfold fldD at e5
        split at e5
        · split at e5
          · rename_i h
            subst h
            cases r with
            | ins c1 h1 n1 r1 =>
              rw [k1] at c1
              cases c1
              subst n1
              obtain ⟨u, e6, e7⟩ := lookup_rp r1 e5
              exact ⟨_, e1, _, _, _, _, u, rfl, sr.sub _ _ h1, k2, k3 f hf, e6, q4 H F ad (Le.refl F) sr u e7⟩
          · cases e5
        · cases e5
      | own o =>
        cases o with
        | oi c' gs => exact own c' gs hat e4
        | ol _ => cases e4
        | od _ => cases e4
        | oz => cases e4
        | oll _ => cases e4
        | ot _ _ => cases e4
      | lent o =>
        cases o with
        | oi c' gs => exact own c' gs hat e4
        | ol _ => cases e4
        | od _ => cases e4
        | oz => cases e4
        | oll _ => cases e4
        | ot _ _ => cases e4
end
end DL
set_option Elab.async false
set_option linter.all false
set_option maxRecDepth 100000
set_option maxHeartbeats 2000000
namespace DL
open PySem PySem.Spec PyProof.Rows L2
inductive Fl where
  | nx (e : Env) | rt (d : D) (e : Env) | bk (e : Env) | ct (e : Env) | exc (c : Str) (e : Env) | bad
def PostS (S : Gd) (W : WX) (F : Hp) (d : Ends) (r : Fl) : Prop := match r with
  | .nx e => ∀ σ' H' F' ad', Le F F' → SR S σ' H' F' e ad' → d.nx σ' H'
  | .rt x e => ∀ σ' H' F' ad' v, Le F F' → SR S σ' H' F' e ad' → Rp S.T F' v x → d.rt v H'
  | .bk e => ∀ σ' H' F' ad', Le F F' → SR S σ' H' F' e ad' → d.bk σ' H'
  | .ct e => ∀ σ' H' F' ad', Le F F' → SR S σ' H' F' e ad' → d.ct σ' H'
  | .exc c e => ∀ C σ' H' F' ad', S.T.exc c = some C → Le F F' → SR S σ' H' F' e ad' → W (.ref C) none σ' H'
  | .bad => False
def tS (S : Gd) (W : WX) (m : Env → Fl) : TS := fun d σ H => ∃ F env ad, SR S σ H F env ad ∧ PostS S W F d (m env)
def Res.fl {α : Type} : Res α → (α → Env → Fl) → Fl
  | .ok a e, f => f a e
  | .exc c e, _ => .exc c e
  | .bad, _ => .bad
section
variable {S : Gd} {W : WX} {F F' : Hp} {d d' : Ends} {r : Fl} {σ : L2.St}
theorem PostS.le (h : PostS S W F d r) (le : Le F F') : PostS S W F' d r := by
  cases r with
  | nx e => exact fun σ' H' F2 ad' l sr => h σ' H' F2 ad' (le.trans l) sr
  | rt x e => exact fun σ' H' F2 ad' v l sr => h σ' H' F2 ad' v (le.trans l) sr
  | bk e => exact fun σ' H' F2 ad' l sr => h σ' H' F2 ad' (le.trans l) sr
  | ct e => exact fun σ' H' F2 ad' l sr => h σ' H' F2 ad' (le.trans l) sr
  | exc c e => exact fun C σ' H' F2 ad' hc l sr => h C σ' H' F2 ad' hc (le.trans l) sr
  | bad => exact h
theorem Post.fl {α : Type} {q : Res α} {f : α → Env → Fl} (h : PostS S W F d (q.fl f)) : Post S W σ F q fun a e H' F' ad' => PostS S W F' d (f a e) := by
  cases q with
  | ok a e => exact fun H' F' ad' le sr => PostS.le h le
  | exc c e => exact fun C H' F' ad' hc le sr => h C σ H' F' ad' hc le sr
  | bad => exact h
end
section
variable {X : Cx} {S : Gd} {W : WX} {e a b : Expr} {st : Stmt} {rest : List Stmt} {pos : Pos} {m : M D} {s t u : Env → Fl} {tb : M Bool}
def sNil : Env → Fl := fun env => .nx env
def sSeq (s t : Env → Fl) : Env → Fl := fun env => match s env with
  | .nx e => t e
  | r => r
theorem ds_nil : PSs X [] (tS S W sNil) := PSs.imp pss_nil fun d σ H ⟨F, env, ad, sr, p⟩ => p σ H F ad (Le.refl F) sr
theorem ds_cons (h : PS X st (tS S W s)) (hr : PSs X rest (tS S W t)) : PSs X (st :: rest) (tS S W (sSeq s t)) :=
  PSs.imp (pss_cons h hr) fun d σ H ⟨F, env, ad, sr, p⟩ => by
    refine ⟨F, env, ad, sr, ?_⟩
    unfold sSeq at p
    cases q : s env with
    | nx e =>
      rw [q] at p
      exact fun σ' H' F' ad' le sr' => ⟨F', e, ad', sr', PostS.le p le⟩
    | rt x e => rw [q] at p; exact p
    | bk e => rw [q] at p; exact p
    | ct e => rw [q] at p; exact p
    | exc c e => rw [q] at p; exact p
    | bad => rw [q] at p; exact p
theorem ds_one (h : PS X st (tS S W s)) : PSs X [st] (tS S W s) := pss_one h
def sBad : Env → Fl := fun _ => .bad
theorem ds_never {sts : List Stmt} : PSs X sts (tS S W sBad) := PSs.imp pss_never fun d σ H ⟨F, env, ad, sr, p⟩ => p
def sBrk : Env → Fl := fun env => .bk env
def sRet (m : M D) : Env → Fl := fun env => (m env).fl fun d e => .rt d e
theorem ds_ret (h : PE X e (tD S W m)) : PS X (.Return (some e) pos) (tS S W (sRet m)) :=
  PS.imp (ps_ret h) fun d σ H ⟨F, env, ad, sr, p⟩ => ⟨F, env, ad, sr, (Post.fl p).imp fun x e1 H1 F1 ad1 le1 sr1 q v r => q σ H1 F1 ad1 v (Le.refl F1) sr1 r⟩
def sExp (m : M D) : Env → Fl := fun env => (m env).fl fun _ e => .nx e
theorem ds_exp (h : PE X e (tD S W m)) (hs : swapsWith e none pos.line X.env = pure false := by rfl) : PS X (.Expr e pos) (tS S W (sExp m)) :=
  PS.imp (ps_expr h hs) fun d σ H ⟨F, env, ad, sr, p⟩ => ⟨F, env, ad, sr, (Post.fl p).imp fun x e1 H1 F1 ad1 le1 sr1 q v r => q σ H1 F1 ad1 (Le.refl F1) sr1⟩
def sIf (t : M Bool) (a b : Env → Fl) : Env → Fl := fun env => (t env).fl fun k e => if k = true then a e else b e
theorem ds_if {c : Expr} {as bs : List Stmt} (hc : PT X c (tT S W tb)) (ha : PSs X as (tS S W s)) (hb : PSs X bs (tS S W t)) : PS X (.If c as bs pos) (tS S W (sIf tb s t)) :=
  PS.imp (ps_if hc ha hb) fun d σ H ⟨F, env, ad, sr, p⟩ => ⟨F, env, ad, sr, (Post.fl p).imp fun k e1 H1 F1 ad1 le1 sr1 q => by
    cases k with
    | true =>
      rw [if_pos rfl] at q ⊢
      exact ⟨F1, e1, ad1, sr1, q⟩
    | false =>
      rw [if_neg Bool.false_ne_true] at q ⊢
      exact ⟨F1, e1, ad1, sr1, q⟩⟩
abbrev Tg := D → Env → Option Env
abbrev Tgs := List D → Env → Option Env
def But (js : List Nat) (σ σ' : L2.St) : Prop := σ'.length = σ.length ∧ ∀ j, j ∉ js → σ'[j]? = σ[j]?
theorem But.refl (σ : L2.St) (js : List Nat) : But js σ σ := ⟨rfl, fun _ _ => rfl⟩
theorem But.trans {js ks : List Nat} {σ σ1 σ2 : L2.St} (a : But js σ σ1) (b : But ks σ1 σ2) : But (js ++ ks) σ σ2 := ⟨b.1.trans a.1, fun j hj => by
  rw [b.2 j fun z => hj (List.mem_append_right _ z), a.2 j fun z => hj (List.mem_append_left _ z)]⟩
theorem But.set {i : Nat} {σ : L2.St} {x : Option V} : But [i] σ (σ.set i x) := ⟨List.length_set .., fun j hj => get_set_ne fun z => hj (by rw [z]; exact List.mem_cons_self ..)⟩
def tG (S : Gd) (js : List Nat) (f : Tg) : TG := fun v σ H Q => ∃ F env ad d e', SR S σ H F env ad ∧ Rp S.T F v d ∧ f d env = some e' ∧ ∀ σ' ad', SR S σ' H F e' ad' → But js σ σ' → Q σ' H
def tGs (S : Gd) (js : List Nat) (f : Tgs) : TGs := fun vs σ H Q => ∃ F env ad ds e', SR S σ H F env ad ∧ RpAll S.T F vs ds ∧ f ds env = some e' ∧ ∀ σ' ad', SR S σ' H F e' ad' → But js σ σ' → Q σ' H
theorem PG.imp {e : Expr} {t t' : TG} (h : PG X e t) (i : ∀ v σ H Q, t' v σ H Q → t v σ H Q) : PG X e t' := ⟨fun pins s σ H v u Q I r q => h.run pins s σ H v u Q I r (i v σ H Q q)⟩
theorem PGs.imp {e : List Expr} {t t' : TGs} (h : PGs X e t) (i : ∀ v σ H Q, t' v σ H Q → t v σ H Q) : PGs X e t' := ⟨fun pins s σ H v u Q I r q => h.run pins s σ H v u Q I r (i v σ H Q q)⟩
def gNm (i : Nat) : Tg := fun d env => some (env.set i (.dat d))
theorem dg_name {i : Nat} {x : Str} (hN : X.N.Nodup) (hi : X.N[i]? = some x) (hx : Loc X.env.scope x) (hf : X.fn x = true ∨ X.env.scope.names.lookup x = some .local := by first | exact .inl rfl | exact .inr rfl | assumption) : PG X (.Name x pos) (tG S [i] (gNm i)) :=
  PG.imp (pg_name hN hi hx hf) fun v σ H Q ⟨F, env, ad, d, e', sr, r, e1, k⟩ => by
    cases e1
    exact k _ _ (sr.store i r) .set
def gNo : Tgs := fun ds env => match ds with
  | [] => some env
  | _ => none
def gCo (f : Tg) (g : Tgs) : Tgs := fun ds env => match ds with
  | d :: r => (f d env).bind fun e => g r e
  | [] => none
theorem dgs_nil : PGs X [] (tGs S [] gNo) := PGs.imp pgs_nil fun vs σ H Q ⟨F, env, ad, ds, e', sr, r, e1, k⟩ => by
  cases ds with
  | nil =>
    cases e1
    cases r
    exact ⟨rfl, k _ _ sr (But.refl _ _)⟩
  | cons d r => cases e1
theorem dgs_cons {f : Tg} {g : Tgs} {es : List Expr} {js ks : List Nat} (h1 : PG X e (tG S js f)) (h2 : PGs X es (tGs S ks g)) (hs : (assignEach (e :: es) X.env).map (·.2) = assign e X.env :: (assignEach es X.env).map (·.2) := by rfl) : PGs X (e :: es) (tGs S (js ++ ks) (gCo f g)) :=
  PGs.imp (pgs_cons h1 h2 hs) fun vs σ H Q ⟨F, env, ad, ds, e', sr, r, e1, k⟩ => by
    cases r with
    | nil => cases e1
    | cons r rr =>
      obtain ⟨e2, e3, e4⟩ := Option.bind_eq_some_iff.mp e1
      exact ⟨_, _, rfl, F, env, ad, _, e2, sr, r, e3, fun σ' ad' sr' b1 => ⟨F, e2, ad', _, e', sr', rr, e4, fun σ2 ad2 sr2 b2 => k σ2 ad2 sr2 (b1.trans b2)⟩⟩
def gTu (n : Nat) (g : Tgs) : Tg := fun d env => match d with
  | .tup ds => if ds.length = n then g ds env else none
  | _ => none
theorem dg_tup {es : List Expr} {k n : Nat} {g : Tgs} {js : List Nat} (hc : X.calm = true) (h : PGs X es (tGs S js g)) (hK : X.K = S.T.K := by rfl) (hn : (assignEach es X.env).length = n := by rfl) (hst : (assignEach es X.env).findIdx? (·.1) = none := by rfl) : PG X (.Tuple es k pos) (tG S js (gTu n g)) :=
  PG.imp (pg_tup hc h hn hst) fun v σ H Q ⟨F, env, ad, d, e', sr, r, e1, k⟩ => by
    rw [hK]
    cases r with
    | tup h1 r1 =>
      have e2 : (if _ = n then g _ env else none) = some e' := e1
      split at e2
      · rename_i hl
        exact ⟨_, _, rfl, sr.sub.t h1, by rw [r1.length]; exact hl, F, env, ad, _, e', sr, r1, e2, k⟩
      · cases e2
    | non => cases e1
    | bl _ => cases e1
    | int _ => cases e1
    | str _ => cases e1
    | lst _ _ => cases e1
    | ins _ _ _ _ => cases e1
    | scr _ => cases e1
    | exc _ _ => cases e1
    | dct _ _ _ _ => cases e1
    | wd _ => cases e1
    | raw _ => cases e1
def sAsg (m : M D) (f : Tg) : Env → Fl := fun env => (m env).fl fun d e => match f d e with
  | some e' => .nx e'
  | none => .bad
theorem ds_asg {tg : Expr} {f : Tg} {js : List Nat} (he : PE X e (tD S W m)) (hg : PG X tg (tG S js f)) (hs : swapsWithSole [tg] e pos.line X.env = pure false := by rfl) (hw : swappedStores [tg] e X.env = pure none := by rfl) (h1 : (assignEach [tg] X.env).map (·.2) = [assign tg X.env] := by rfl) : PS X (.Assign [tg] e pos) (tS S W (sAsg m f)) :=
  PS.imp (ps_asg he hg hs hw h1) fun d σ H ⟨F, env, ad, sr, p⟩ => ⟨F, env, ad, sr, (Post.fl p).imp fun x e1 H1 F1 ad1 le1 sr1 q v r => by
    cases q2 : f x e1 with
    | none => rw [q2] at q; exact q.elim
    | some e2 =>
      rw [q2] at q
      exact ⟨F1, e1, ad1, x, e2, sr1, r, q2, fun σ' ad' sr' _ => q σ' H1 F1 ad' (Le.refl F1) sr'⟩⟩
theorem ds_set {i : Nat} {x : Str} {pos' : Pos} (hN : X.N.Nodup) (hi : X.N[i]? = some x) (hx : Loc X.env.scope x) (he : PE X e (tD S W m)) (hs : swapsWith e (some (.Name x pos')) pos.line X.env = pure false := by rfl)
    (hf : X.fn x = true ∨ X.env.scope.names.lookup x = some .local := by first | exact .inl rfl | exact .inr rfl | assumption) : PS X (.Assign [.Name x pos'] e pos) (tS S W (sAsg m (gNm i))) :=
  PS.imp (ps_set hN hi hx he hs hf) fun d σ H ⟨F, env, ad, sr, p⟩ => ⟨F, env, ad, sr, (Post.fl p).imp fun x e1 H1 F1 ad1 le1 sr1 q v r => q _ H1 F1 _ (Le.refl F1) (sr1.store i r)⟩
end
def ItD (T : Tb) (F : Hp) (J : It) (ds : List D) : Prop := ∀ H, Le F H → ∀ i : Nat, (∀ d, ds[i]? = some d → J.go i H ∧ ∀ x H', J.yld i H x H' → (H' = H ∧ Rp T F x d) ∨ ∃ p vs es, H p = none ∧ H' = upd H p (.tup vs) ∧ x = .ref p ∧ d = .tup es ∧ RpAll T F vs es) ∧ (i = ds.length → J.stop i H)
def tI (S : Gd) (W : WX) (m : M (List D)) : TI := fun σ H R => ∃ F env ad, SR S σ H F env ad ∧ Post S W σ F (m env) fun ds _ H' F' _ => ∀ J : It, ItD S.T F' J ds → R J H'
theorem ItD.le {T : Tb} {F F' : Hp} {J : It} {ds : List D} (h : ItD T F J ds) (le : Le F F') : ItD T F' J ds := fun H l i => by
  obtain ⟨h1, h2⟩ := h H (le.trans l) i
  refine ⟨fun d e => ⟨(h1 d e).1, fun x H' y => ?_⟩, h2⟩
  rcases (h1 d e).2 x H' y with ⟨z1, z2⟩ | ⟨p, vs, es, z1, z2, z3, z4, z5⟩
  · exact .inl ⟨z1, z2.mono le⟩
  · exact .inr ⟨p, vs, es, z1, z2, z3, z4, z5.mono le⟩
theorem ItD.turn {S : Gd} {F F1 : Hp} {J : It} {ds : List D} {i : Nat} {d : D} {σ : L2.St} {H : Hp} {env : Env} {ad : Nat → List Addr} (h : ItD S.T F1 J ds) (hd : ds[i]? = some d) (sr : SR S σ H F env ad) (le : Le F1 F) :
    J.go i H ∧ ∀ x H', J.yld i H x H' → ∃ F', Le F F' ∧ SR S σ H' F' env ad ∧ Rp S.T F' x d ∧ ∀ b u, H b = some u → F b = none → H' b = some u ∧ F' b = none := by
  obtain ⟨g, y⟩ := (h H (le.trans sr.sub) i).1 d hd
  refine ⟨g, fun x H' hy => ?_⟩
  rcases y x H' hy with ⟨z1, z2⟩ | ⟨p, vs, es, z1, z2, z3, z4, z5⟩
  · subst z1
    exact ⟨F, Le.refl F, sr, z2.mono le, fun b u e1 e2 => ⟨e1, e2⟩⟩
  · subst z2 z3 z4
    obtain ⟨sr2, le2⟩ := sr.alloc (o := .tup vs) z1 notb_tup
    exact ⟨_, le2, sr2, .tup (.of upd_same) ((z5.mono le).mono le2), fun b u e1 e2 => by
      have hn : b ≠ p := ne_of_none e1 z1
      rw [upd_ne hn, upd_ne hn]
      exact ⟨e1, e2⟩⟩
section
variable {X : Cx} {S : Gd} {W : WX} {e a b iter tg : Expr} {body : List Stmt} {pos p : Pos} {m : M D} {s t u : Env → Fl} {mi : M (List D)} {f : Tg} {js : List Nat}
def forD (f : Tg) (body : Env → Fl) : List D → Env → Fl
  | [], env => .nx env
  | d :: r, env => match f d env with
    | none => .bad
    | some e1 => match body e1 with
      | .nx e2 => forD f body r e2
      | .ct e2 => forD f body r e2
      | .bk e2 => .nx e2
      | .rt x e2 => .rt x e2
      | .exc c e2 => .exc c e2
      | .bad => .bad
def sFor (mi : M (List D)) (f : Tg) (body : Env → Fl) : Env → Fl := fun env => (mi env).fl fun ds e => forD f body ds e
theorem ds_for (hp : PassesOwn (model X.prog X.w) X.A X.env X.xe) (hc : X.calm = true) (hi : PI X tg iter (tI S W mi)) (hg : PG X tg (tG S js f)) (hb : PSs X body (tS S W s)) (hs : ∀ x, foldedSetIterable iter X.env x = pure x := by intro _; rfl) : PS X (.For tg iter body [] pos) (tS S W (sFor mi f s)) :=
  PS.imp (ps_for hp hc hi hg hb hs) fun d σ H ⟨F, env, ad, sr, p⟩ => ⟨F, env, ad, sr, (Post.fl p).imp fun ds e1 H1 F1 ad1 le1 sr1 q J hJ => by
    refine ⟨fun i m σ H => m = ds.length - i ∧ i ≤ ds.length ∧ ∃ F2 e2 ad2, Le F1 F2 ∧ SR S σ H F2 e2 ad2 ∧ PostS S W F2 d (forD f s (ds.drop i) e2), ⟨ds.length, by simp, Nat.zero_le _, F1, e1, ad1, Le.refl F1, sr1, q⟩, ?_⟩
    rintro i m σ H ⟨rfl, hi, F2, e2, ad2, le2, sr2, q2⟩
    by_cases hlt : i < ds.length
    · have hd : ds[i]? = some ds[i] := List.getElem?_eq_getElem hlt
      rw [List.drop_eq_getElem_cons hlt] at q2
      obtain ⟨g, y⟩ := hJ.turn hd sr2 le2
      unfold forD at q2
      cases q3 : f ds[i] e2 with
      | none => rw [q3] at q2; exact q2.elim
      | some e3 =>
        rw [q3] at q2
        simp only at q2
        refine .inr ⟨g, fun σ' H' => ∃ F4 e4 ad4, Le F1 F4 ∧ SR S σ' H' F4 e4 ad4 ∧ PostS S W F4 d (forD f s (ds.drop (i + 1)) e4), fun σ' H' z => ⟨ds.length - (i + 1), by omega, rfl, by omega, z⟩, fun x H' hy => ?_⟩
        obtain ⟨F3, le3, sr3, r3, _⟩ := y x H' hy
        refine ⟨F3, e2, ad2, ds[i], e3, sr3, r3, q3, fun σ' ad' sr' _ => ⟨F3, e3, ad', sr', ?_⟩⟩
        cases q4 : s e3 with
        | nx e4 =>
          rw [q4] at q2
          exact fun σ5 H5 F5 ad5 le5 sr5 => ⟨F5, e4, ad5, (le2.trans le3).trans le5, sr5, PostS.le q2 (le3.trans le5)⟩
        | ct e4 =>
          rw [q4] at q2
          exact fun σ5 H5 F5 ad5 le5 sr5 => ⟨F5, e4, ad5, (le2.trans le3).trans le5, sr5, PostS.le q2 (le3.trans le5)⟩
        | bk e4 =>
          rw [q4] at q2
          exact fun σ5 H5 F5 ad5 le5 sr5 => q2 σ5 H5 F5 ad5 (le3.trans le5) sr5
        | rt x e4 =>
          rw [q4] at q2
          exact fun σ5 H5 F5 ad5 v le5 sr5 => q2 σ5 H5 F5 ad5 v (le3.trans le5) sr5
        | exc c e4 =>
          rw [q4] at q2
          exact fun C σ5 H5 F5 ad5 hc le5 sr5 => q2 C σ5 H5 F5 ad5 hc (le3.trans le5) sr5
        | bad => rw [q4] at q2; exact q2.elim
    · have e0 : i = ds.length := by omega
      subst e0
      rw [List.drop_length] at q2
      exact .inl ⟨(hJ H (le2.trans sr2.sub) ds.length).2 rfl, q2 σ H F2 ad2 (Le.refl F2) sr2⟩⟩
theorem PI.imp {wi wi' : TI} (h : PI X tg iter wi) (i : ∀ σ H R, wi' σ H R → wi σ H R) : PI X tg iter wi' := ⟨fun pins s σ H R I q => h.run pins s σ H R I (i σ H R q)⟩
def iLst (m : M D) : M (List D) := fun env => (m env).bind fun d e => match d with
  | .lst ds => .ok ds e
  | _ => .bad
def iTpl (m : M D) : M (List D) := fun env => (m env).bind fun d e => match d with
  | .tup ds => .ok ds e
  | _ => .bad
theorem it_list {T : Tb} {F : Hp} {a : Addr} {vs : List V} {ds : List D} (h : F a = some (.lst vs)) (r : RpAll T F vs ds) : ItD T F (Itl T.K a) ds := fun H le i => by
  have hq : SqL T.K H a vs := .of (le _ _ h)
  refine ⟨fun d e => ?_, fun hl => ⟨vs, hq, by rw [r.length]; exact Nat.le_of_eq hl.symm⟩⟩
  obtain ⟨v, e1, e2⟩ := r.get e
  refine ⟨⟨vs, v, hq, e1⟩, fun x H' hy => .inl ⟨hy.1, ?_⟩⟩
  have e3 := hy.2 vs hq
  rw [e1] at e3
  cases e3
  exact e2
theorem it_tup {T : Tb} {F : Hp} {a : Addr} {vs : List V} {ds : List D} (h : SqT T.K F a vs) (r : RpAll T F vs ds) : ItD T F (Itt T.K a) ds := fun H le i => by
  have hq : SqT T.K H a vs := le.t h
  refine ⟨fun d e => ?_, fun hl => ⟨vs, hq, by rw [r.length]; exact Nat.le_of_eq hl.symm⟩⟩
  obtain ⟨v, e1, e2⟩ := r.get e
  refine ⟨⟨vs, v, hq, e1⟩, fun x H' hy => .inl ⟨hy.1, ?_⟩⟩
  have e3 := hy.2 vs hq
  rw [e1] at e3
  cases e3
  exact e2
theorem di_list (h : PE X e (tD S W m)) (hK : X.K = S.T.K := by rfl) : PI X tg e (tI S W (iLst m)) :=
  PI.imp (pi_list h) fun σ H R ⟨F, env, ad, sr, p⟩ => ⟨F, env, ad, sr, p.bind.imp fun d e1 H1 F1 ad1 le1 sr1 q v r => by
    rw [hK]
    have q2 := q.2
    cases r with
    | lst h1 r1 => exact ⟨_, rfl, ⟨_, .of (sr1.sub _ _ h1)⟩, q2 H1 F1 ad1 (Le.refl F1) sr1 _ (it_list h1 r1)⟩
    | non => exact q2.elim
    | bl _ => exact q2.elim
    | int _ => exact q2.elim
    | str _ => exact q2.elim
    | tup _ _ => exact q2.elim
    | ins _ _ _ _ => exact q2.elim
    | scr _ => exact q2.elim
    | exc _ _ => exact q2.elim
    | dct _ _ _ _ => exact q2.elim
    | wd _ => exact q2.elim
    | raw _ => exact q2.elim⟩
theorem di_tup (h : PE X e (tD S W m)) (hK : X.K = S.T.K := by rfl) : PI X tg e (tI S W (iTpl m)) :=
  PI.imp (pi_tup h) fun σ H R ⟨F, env, ad, sr, p⟩ => ⟨F, env, ad, sr, p.bind.imp fun d e1 H1 F1 ad1 le1 sr1 q v r => by
    rw [hK]
    have q2 := q.2
    cases r with
    | tup h1 r1 => exact ⟨_, rfl, ⟨_, sr1.sub.t h1⟩, q2 H1 F1 ad1 (Le.refl F1) sr1 _ (it_tup h1 r1)⟩
    | non => exact q2.elim
    | bl _ => exact q2.elim
    | int _ => exact q2.elim
    | str _ => exact q2.elim
    | lst _ _ => exact q2.elim
    | ins _ _ _ _ => exact q2.elim
    | scr _ => exact q2.elim
    | exc _ _ => exact q2.elim
    | dct _ _ _ _ => exact q2.elim
    | wd _ => exact q2.elim
    | raw _ => exact q2.elim⟩
def rangeD (lo : Int) : Nat → List D
  | 0 => []
  | n + 1 => .int lo :: rangeD (lo + 1) n
theorem rangeD_length : ∀ (n : Nat) (lo : Int), (rangeD lo n).length = n
  | 0, _ => rfl
  | n + 1, lo => by
    show (rangeD (lo + 1) n).length + 1 = n + 1
    rw [rangeD_length n]
theorem rangeD_get : ∀ (n : Nat) (lo : Int) (i : Nat) (d : D), (rangeD lo n)[i]? = some d → i < n ∧ d = .int (lo + i)
  | 0, _, _, _, e => by simp [rangeD] at e
  | n + 1, lo, 0, d, e => by
    have e2 : some (D.int lo) = some d := e
    cases e2
    exact ⟨Nat.succ_pos _, by simp⟩
  | n + 1, lo, i + 1, d, e => by
    have e2 : (rangeD (lo + 1) n)[i]? = some d := e
    obtain ⟨h1, h2⟩ := rangeD_get n (lo + 1) i d e2
    refine ⟨by omega, ?_⟩
    rw [h2]
    congr 1
    omega
theorem it_range {T : Tb} {F : Hp} (lo : Int) (n : Nat) : ItD T F (Itr lo n) (rangeD lo n) := fun H le i => by
  refine ⟨fun d e => ?_, fun hl => ?_⟩
  · obtain ⟨h1, h2⟩ := rangeD_get n lo i d e
    refine ⟨h1, fun x H' hy => .inl ⟨hy.1, ?_⟩⟩
    rw [h2, hy.2]
    exact .int _
  · rw [rangeD_length] at hl
    exact Nat.le_of_eq hl.symm
def inR (j : Int) : Bool := decide (-(2 ^ 62) ≤ j) && decide (j < 2 ^ 62)
theorem inR_ok {j : Int} (h : inR j = true) : -(2 ^ 62) ≤ j ∧ j < 2 ^ 62 := by
  unfold inR at h
  rw [Bool.and_eq_true] at h
  exact ⟨of_decide_eq_true h.1, of_decide_eq_true h.2⟩
def iRg1 (l : M (List D)) : M (List D) := fun env => (l env).bind fun ds e => match ds with
  | [.int j] => if inR j = true then .ok (rangeD 0 j.toNat) e else .bad
  | _ => .bad
theorem di_range1 {l : M (List D)} (hg : Gl X "range") (hm : X.mg "range" = none) (ha : PA X [a] (tL S W l)) (hs : starEach [a] X.env = [(false, eval a X.env)] := by rfl) : PI X tg (.Call (.Name "range" p) [a] [] pos) (tI S W (iRg1 l)) :=
  PI.imp (pi_range1 hg hm ha hs) fun σ H R ⟨F, env, ad, sr, p⟩ => ⟨F, env, ad, sr, p.bind.imp fun ds e1 H1 F1 ad1 le1 sr1 q vs rs => by
    have q2 := q.2
    split at q2
    · split at q2
      · rename_i j hj
        cases rs with
        | cons h t =>
          cases t; cases h
          exact ⟨j, rfl, (inR_ok hj).1, (inR_ok hj).2, q2 H1 F1 ad1 (Le.refl F1) sr1 _ (it_range 0 _)⟩
      · exact q2.elim
    · exact q2.elim⟩
end
end DL
set_option Elab.async false
set_option linter.all false
set_option maxRecDepth 100000
set_option maxHeartbeats 2000000
namespace DL
open PySem PySem.Spec PyProof.Rows L2
inductive FRes where
  | rt (d : D) (as : List Slot) | exc (c : Str) (as : List Slot) | bad
abbrev Fn := List Slot → FRes
def handed : Slot → Bool
  | .dat _ | .lent _ => true
  | _ => false
abbrev gd (T : Tb) (H F : Hp) (OA : List Addr) (vs : List V) : Gd := ⟨T, H, F, OA, vs.map some⟩
def spF (T : Tb) (n : Nat) (φ : Fn) : Sp := fun vs H Q E => ∃ F args ad OA, vs.length = n ∧ SR (gd T H F OA vs) (vs.map some) H F args ad ∧ args.all handed = true ∧ match φ args with
  | .rt d as => ∀ v H' F' ad', Le F F' → SR (gd T H F OA vs) (vs.map some) H' F' as ad' → Rp T F' v d → Q v H'
  | .exc c as => ∀ C H' F' ad', T.exc c = some C → Le F F' → SR (gd T H F OA vs) (vs.map some) H' F' as ad' → E (.ref C) none H'
  | .bad => False
theorem spF.len {T : Tb} {n : Nat} {φ : Fn} {vs : List V} {H : Hp} {Q : VK} {E : XK} (h : spF T n φ vs H Q E) : vs.length = n := by
  obtain ⟨F, args, ad, OA, h1, _⟩ := h
  exact h1
def backA : List Slot → Env → Option (List Slot)
  | [], _ => some []
  | .lent _ :: r, .lent o :: e => (backA r e).map (.lent o :: ·)
  | .lent _ :: _, _ => none
  | s :: r, _ :: e => (backA r e).map (s :: ·)
  | _ :: _, [] => none
def fnD (n : Nat) (body : Env → Fl) : Fn := fun args => match body (args ++ List.replicate (n - args.length) .emp) with
  | .rt d e => (match backA args e with
    | some as => .rt d as
    | none => .bad)
  | .nx e => (match backA args e with
    | some as => .rt .non as
    | none => .bad)
  | .exc c e => (match backA args e with
    | some as => .exc c as
    | none => .bad)
  | _ => .bad
theorem backA_get : ∀ {args : List Slot} {e : Env} {as : List Slot}, backA args e = some as → as.length = args.length ∧ args.length ≤ e.length ∧ ∀ (j : Nat) (s : Slot), as[j]? = some s → (∃ o o', args[j]? = some (.lent o) ∧ s = .lent o' ∧ e[j]? = some (.lent o')) ∨ (args[j]? = some s ∧ isLent s = false)
  | [], e, as, h => by
    cases h
    exact ⟨rfl, Nat.zero_le _, fun j s q => by simp at q⟩
  | .lent o0 :: r, [], as, h => by cases h
  | .lent o0 :: r, .lent o :: e, as, h => by
    obtain ⟨as', h1, h2⟩ := Option.map_eq_some_iff.mp h
    subst h2
    obtain ⟨i1, i2, i3⟩ := backA_get h1
    refine ⟨by simp [i1], by simp; omega, fun j s q => ?_⟩
    cases j with
    | zero =>
      simp at q
      subst q
      exact .inl ⟨o0, o, rfl, rfl, rfl⟩
    | succ j =>
      simp at q
      rcases i3 j s q with ⟨x, y, z1, z2, z3⟩ | ⟨z1, z2⟩
      · exact .inl ⟨x, y, by simpa using z1, z2, by simpa using z3⟩
      · exact .inr ⟨by simpa using z1, z2⟩
  | .lent o0 :: r, .emp :: e, as, h => by cases h
  | .lent o0 :: r, .dat _ :: e, as, h => by cases h
  | .lent o0 :: r, .own _ :: e, as, h => by cases h
  | .emp :: r, [], as, h => by cases h
  | .dat _ :: r, [], as, h => by cases h
  | .own _ :: r, [], as, h => by cases h
  | .emp :: r, x :: e, as, h => by
    obtain ⟨as', h1, h2⟩ := Option.map_eq_some_iff.mp h
    subst h2
    obtain ⟨i1, i2, i3⟩ := backA_get h1
    refine ⟨by simp [i1], by simp; omega, fun j s q => ?_⟩
    cases j with
    | zero => simp at q; subst q; exact .inr ⟨rfl, rfl⟩
    | succ j =>
      simp at q
      rcases i3 j s q with ⟨x, y, z1, z2, z3⟩ | ⟨z1, z2⟩
      · exact .inl ⟨x, y, by simpa using z1, z2, by simpa using z3⟩
      · exact .inr ⟨by simpa using z1, z2⟩
  | .dat d :: r, x :: e, as, h => by
    obtain ⟨as', h1, h2⟩ := Option.map_eq_some_iff.mp h
    subst h2
    obtain ⟨i1, i2, i3⟩ := backA_get h1
    refine ⟨by simp [i1], by simp; omega, fun j s q => ?_⟩
    cases j with
    | zero => simp at q; subst q; exact .inr ⟨rfl, rfl⟩
    | succ j =>
      simp at q
      rcases i3 j s q with ⟨x, y, z1, z2, z3⟩ | ⟨z1, z2⟩
      · exact .inl ⟨x, y, by simpa using z1, z2, by simpa using z3⟩
      · exact .inr ⟨by simpa using z1, z2⟩
  | .own o :: r, x :: e, as, h => by
    obtain ⟨as', h1, h2⟩ := Option.map_eq_some_iff.mp h
    subst h2
    obtain ⟨i1, i2, i3⟩ := backA_get h1
    refine ⟨by simp [i1], by simp; omega, fun j s q => ?_⟩
    cases j with
    | zero => simp at q; subst q; exact .inr ⟨rfl, rfl⟩
    | succ j =>
      simp at q
      rcases i3 j s q with ⟨x, y, z1, z2, z3⟩ | ⟨z1, z2⟩
      · exact .inl ⟨x, y, by simpa using z1, z2, by simpa using z3⟩
      · exact .inr ⟨by simpa using z1, z2⟩
theorem SR.back {T : Tb} {H0 F0 : Hp} {OA : List Addr} {vs : List V} {args as : List Slot} {σ : L2.St} {H F : Hp} {env : Env} {ad ad0 : Nat → List Addr} (h0 : SR (gd T H0 F0 OA vs) (vs.map some) H0 F0 args ad0) (hh : args.all handed = true) (h : SR ⟨T, H0, F0, OA, vs.map some⟩ σ H F env ad) (e : backA args env = some as) :
    ∃ ad', SR (gd T H0 F0 OA vs) (vs.map some) H F as ad' := by
  obtain ⟨i1, i2, i3⟩ := backA_get e
  refine ⟨fun j => match as[j]? with | some (.lent _) => ad j | _ => [], ?_⟩
  refine ⟨by rw [i1]; exact h0.len, h.sub, fun j s q => ?_, fun j hj => ?_, fun i j a ha hb => ?_, fun i a ha => ?_, h.keep, h.tab, h.notb, h.old, h.le0, h.dom, fun j o q => rfl⟩
  · rcases i3 j s q with ⟨o, o', z1, z2, z3⟩ | ⟨z1, z2⟩
    · subst z2
      rw [q]
      have q2 := h.at_ j _ z3
      rw [show σ[j]? = (vs.map some)[j]? from h.fix j o' z3] at q2
      exact q2
    · have hs : handed s = true := List.all_eq_true.mp hh s (List.mem_of_getElem? z1)
      cases s with
      | dat d =>
        rw [q]
        obtain ⟨_, v, x1, x2⟩ := h0.at_ j _ z1
        exact ⟨rfl, v, x1, x2.mono h.le0⟩
      | emp => cases hs
      | own _ => cases hs
      | lent _ => cases z2
  · rw [List.getElem?_eq_none hj]
  · have ha2 : a ∈ ad i := by
      split at ha
      · exact ha
      · cases ha
    have hb2 : a ∈ ad j := by
      split at hb
      · exact hb
      · cases hb
    exact h.dis i j a ha2 hb2
  · have ha2 : a ∈ ad i := by
      split at ha
      · exact ha
      · cases ha
    exact h.mine i a ha2
theorem SR.begin {S : Gd} {vs : List V} {H F : Hp} {args : List Slot} {ad : Nat → List Addr} (n : Nat) (h : SR S (vs.map some) H F args ad) : SR S (vs.map some ++ List.replicate (n - vs.length) none) H F (args ++ List.replicate (n - args.length) .emp) ad := by
  have hl : vs.length = args.length := by
    have := h.len
    rwa [List.length_map] at this
  have hlm : (vs.map some).length = vs.length := List.length_map ..
  refine ⟨by simp [hl], h.sub, fun i s e => ?_, fun i hi => h.out i (by simp at hi; omega), h.dis, h.mine, h.keep, h.tab, h.notb, h.old, h.le0, h.dom, fun i o e => ?_⟩
  · by_cases hi : i < args.length
    · rw [List.getElem?_append_left hi] at e
      rw [List.getElem?_append_left (by rw [hlm, hl]; exact hi)]
      exact h.at_ i s e
    · rw [List.getElem?_append_right (by omega), List.getElem?_replicate] at e
      split at e
      · cases e
        exact h.out i (by omega)
      · cases e
  · by_cases hi : i < args.length
    · rw [List.getElem?_append_left hi] at e
      rw [List.getElem?_append_left (by rw [hlm, hl]; exact hi)]
      exact h.fix i o e
    · rw [List.getElem?_append_right (by omega), List.getElem?_replicate] at e
      split at e <;> cases e
section
variable {P : Program} {w : World} {T : Tb} {mg : Str → Option Value} {base : Heap} {x qual : Str} {params : Arguments} {body : List Stmt} {scope : Scope} {dvs : List V} {kws : List (Str × V)} {f : Addr} {fd : FuncData}
theorem body_run {N ps : List Str} {k : Nat} {mb : Env → Fl} {X : Cx} {E : XK} {A : Around} (SC : FnScope N ps scope) {vs : List V} {H : Hp} {Q : VK}
    (hb : ∀ (H0 F0 : Hp) (OA : List Addr) (V0 : L2.St), Room k A → PSs X body (tS ⟨T, H0, F0, OA, V0⟩ (fun c d _ H' => E c d H') mb)) (hr : Room k A) (h : spF T ps.length (fnD N.length mb) vs H Q E) :
    ∃ t, PSs X body t ∧ t { nx := fun _ H' => Q .non H', rt := Q } (L2.start N vs) H := by
  obtain ⟨F0, args, ad, OA, hl, sr, hh, q⟩ := h
  refine ⟨_, hb H F0 OA (vs.map some) hr, F0, _, ad, sr.begin N.length, ?_⟩
  have hla : args.length = vs.length := by
    have := sr.len
    rw [List.length_map] at this
    exact this.symm
  unfold fnD at q
  generalize mb (args ++ List.replicate (N.length - args.length) .emp) = r at q
  cases r with
  | nx e =>
    intro σ' H' F' ad' le sr'
    simp only at q
    cases q2 : backA args e with
    | none => rw [q2] at q; exact q.elim
    | some as =>
      rw [q2] at q
      obtain ⟨ad2, sr2⟩ := SR.back sr hh sr' q2
      exact q _ H' F' ad2 le sr2 .non
  | rt d e =>
    intro σ' H' F' ad' v le sr' r'
    simp only at q
    cases q2 : backA args e with
    | none => rw [q2] at q; exact q.elim
    | some as =>
      rw [q2] at q
      obtain ⟨ad2, sr2⟩ := SR.back sr hh sr' q2
      exact q v H' F' ad2 le sr2 r'
  | exc c e =>
    intro C σ' H' F' ad' hc le sr'
    simp only at q
    cases q2 : backA args e with
    | none => rw [q2] at q; exact q.elim
    | some as =>
      rw [q2] at q
      obtain ⟨ad2, sr2⟩ := SR.back sr hh sr' q2
      exact q C H' F' ad2 hc le sr2
  | bk e => exact q.elim
  | ct e => exact q.elim
  | bad => exact q.elim
theorem fn_ok {N ps : List Str} {k : Nat} {mb : Env → Fl} (F : FunD T.K x qual params body scope dvs kws f fd) (SC : FnScope N ps scope)
    (hb : ∀ (cdv : Value) (A : Around) (outer : List PySem.Env) (s : Shared) (H : Hp) (E : XK) (H0 F0 : Hp) (OA : List Addr) (V0 : L2.St), Room k (A.deeper (envOfC qual scope s.heap.objs.size f cdv)) →
      PSs (cxOf (L2N.CX P w) P w T.K mg base N qual scope f cdv A outer s H E) body (tS ⟨T, H0, F0, OA, V0⟩ (fun c d _ H' => E c d H') mb)) : FnOk P w T.K mg base (L2N.CX P w) (k + 1) f fd ps (spF T ps.length (fnD N.length mb)) := by
  exact F.ok SC (fun vs H Q E h => h.len) fun cdv A outer s H vs Q E hr h => body_run SC (hb cdv A outer s H E) hr h
end
section
variable {S : Gd} {σ τ : L2.St} {H F H' F' : Hp} {env : Env} {ad adc : Nat → List Addr} {OA : List Addr} {V0 : L2.St} {ss : Env}
theorem SR.enter {vs : List V} (h : SR S σ H F env ad) (hl : vs.length = ss.length) (hat : ∀ (j : Nat) (s : Slot), ss[j]? = some s → SlotAt S.T F H (vs.map some)[j]? s (adc j)) (hout : ∀ j, ss.length ≤ j → adc j = []) (hdis : ∀ i j a, a ∈ adc i → a ∈ adc j → i = j)
    (hm : ∀ j a, a ∈ adc j → F a = none ∧ a ∈ OA) : SR (gd S.T H F OA vs) (vs.map some) H F ss adc :=
  ⟨by rw [List.length_map]; exact hl, h.sub, hat, hout, hdis, fun i a ha => ⟨(hm i a ha).1, .inr (hm i a ha).2⟩, fun _ _ _ e _ => e, h.tab, h.notb, fun _ _ e => .inl e, Le.refl F, fun _ e => e, fun _ _ _ => rfl⟩
theorem SR.leave (h : SR S σ H F env ad) (c : SR ⟨S.T, H, F, OA, V0⟩ τ H' F' ss adc) (i : Nat) (hOA : ∀ a ∈ OA, (∀ j, j ≠ i → a ∉ ad j) ∧ F a = none ∧ (S.H0 a = none ∨ a ∈ S.OA)) : SR S σ H' F' (env.set i .emp) (setA ad i []) := by
  have le : Le F F' := c.le0
  refine ⟨by rw [List.length_set]; exact h.len, c.sub, fun j s e => ?_, fun j hj => ?_, fun j k a ha hb => ?_, fun j a ha => ?_, fun a o na e nt => ?_, c.tab, c.notb, fun a o e => ?_, h.le0.trans le, fun a e => h.dom a (c.dom a e), fun j o e => ?_⟩
  · by_cases z : j = i
    · subst z
      rw [get_set_same e, setA_same]
      rfl
    · rw [get_set_ne z] at e
      rw [setA_ne z]
      refine (h.at_ j s e).mono le fun a ha => ?_
      obtain ⟨u, e1, e2⟩ := h.kind ha
      rw [e1]
      exact c.keep a u (fun y => (hOA a y).1 j z ha) e1 e2.notb
  · rw [List.length_set] at hj
    by_cases z : j = i
    · rw [z, setA_same]
    · rw [setA_ne z]
      exact h.out j hj
  · by_cases z : j = i
    · rw [z, setA_same] at ha
      cases ha
    · by_cases y : k = i
      · rw [y, setA_same] at hb
        cases hb
      · rw [setA_ne z] at ha
        rw [setA_ne y] at hb
        exact h.dis j k a ha hb
  · by_cases z : j = i
    · rw [z, setA_same] at ha
      cases ha
    · rw [setA_ne z] at ha
      refine ⟨?_, (h.mine j a ha).2⟩
      cases q : F' a with
      | none => rfl
      | some u =>
        rcases c.old a u q with y | y | y
        · have y2 : F a = some u := y
          rw [(h.mine j a ha).1] at y2
          cases y2
        · exact absurd y (h.somes ha)
        · exact absurd ha ((hOA a y).1 j z)
  · have q := h.keep a o na e nt
    refine c.keep a o (fun y => ?_) q nt
    rcases (hOA a y).2.2 with z | z
    · rw [e] at z
      cases z
    · exact na z
  · rcases c.old a o e with y | y | y
    · exact h.old a o y
    · exact .inr (.inl (h.dom a y))
    · exact .inr (hOA a y).2.2
  · by_cases z : j = i
    · subst z
      have y := get_set_same e
      cases y
    · rw [get_set_ne z] at e
      exact h.fix j o e
theorem SR.reput (h : SR S σ H F env ad) (i : Nat) (s : Slot) (fp : List Addr) (hi : i < env.length) (hs : SlotAt S.T F H σ[i]? s fp) (hd : ∀ j a, j ≠ i → a ∈ fp → a ∉ ad j) (hm : ∀ a ∈ fp, F a = none ∧ (S.H0 a = none ∨ a ∈ S.OA)) (hfix : isLent s = true → σ[i]? = S.V0[i]?) :
    SR S σ H F (env.set i s) (setA ad i fp) := by
  refine ⟨by rw [List.length_set, h.len], h.sub, fun j t e => ?_, fun j hj => ?_, fun j k a hj hk => ?_, fun j a hj => ?_, h.keep, h.tab, h.notb, h.old, h.le0, h.dom, fun j o e => ?_⟩
  · by_cases z : j = i
    · subst z
      rw [get_set_same e, setA_same]
      exact hs
    · rw [get_set_ne z] at e
      rw [setA_ne z]
      exact h.at_ j t e
  · rw [List.length_set] at hj
    by_cases z : j = i
    · subst z
      omega
    · rw [setA_ne z]
      exact h.out j hj
  · by_cases z : j = i
    · by_cases y : k = i
      · rw [z, y]
      · rw [z, setA_same] at hj
        rw [setA_ne y] at hk
        exact absurd hk (hd k a y hj)
    · by_cases y : k = i
      · rw [setA_ne z] at hj
        rw [y, setA_same] at hk
        exact absurd hj (hd j a z hk)
      · rw [setA_ne z] at hj
        rw [setA_ne y] at hk
        exact h.dis j k a hj hk
  · by_cases z : j = i
    · rw [z, setA_same] at hj
      exact hm a hj
    · rw [setA_ne z] at hj
      exact h.mine j a hj
  · by_cases z : j = i
    · subst z
      have y := get_set_same e
      exact hfix (by rw [← y]; rfl)
    · rw [get_set_ne z] at e
      exact h.fix j o e
end
abbrev AL := List (Option D)
inductive ArgR (T : Tb) (F : Hp) (σ : L2.St) (i : Nat) : List V → AL → Prop
  | nil : ArgR T F σ i [] []
  | dat {v : V} {d : D} {vs : List V} {as : AL} : Rp T F v d → ArgR T F σ i vs as → ArgR T F σ i (v :: vs) (some d :: as)
  | own {v : V} {vs : List V} {as : AL} : σ[i]? = some (some v) → ArgR T F σ i vs as → ArgR T F σ i (v :: vs) (none :: as)
theorem ArgR.mono {T : Tb} {F F' : Hp} {σ : L2.St} {i : Nat} (le : Le F F') : ∀ {vs : List V} {as : AL}, ArgR T F σ i vs as → ArgR T F' σ i vs as
  | _, _, .nil => .nil
  | _, _, .dat h t => .dat (h.mono le) (ArgR.mono le t)
  | _, _, .own h t => .own h (ArgR.mono le t)
theorem ArgR.length {T : Tb} {F : Hp} {σ : L2.St} {i : Nat} : ∀ {vs : List V} {as : AL}, ArgR T F σ i vs as → vs.length = as.length
  | _, _, .nil => rfl
  | _, _, .dat _ t => by simp [ArgR.length t]
  | _, _, .own _ t => by simp [ArgR.length t]
theorem ArgR.get {T : Tb} {F : Hp} {σ : L2.St} {i : Nat} : ∀ {vs : List V} {as : AL} {j : Nat} {a : Option D}, ArgR T F σ i vs as → as[j]? = some a → ∃ v, vs[j]? = some v ∧ match a with | some d => Rp T F v d | none => σ[i]? = some (some v)
  | _, _, _, _, .nil, e => by simp at e
  | _, _, 0, _, .dat h _, e => by simp at e; subst e; exact ⟨_, rfl, h⟩
  | _, _, 0, _, .own h _, e => by simp at e; subst e; exact ⟨_, rfl, h⟩
  | _, _, j + 1, a, .dat _ t, e => by
    obtain ⟨v, h1, h2⟩ := ArgR.get (j := j) (a := a) t (by simpa using e)
    exact ⟨v, by simpa using h1, h2⟩
  | _, _, j + 1, a, .own _ t, e => by
    obtain ⟨v, h1, h2⟩ := ArgR.get (j := j) (a := a) t (by simpa using e)
    exact ⟨v, by simpa using h1, h2⟩
def tX (S : Gd) (W : WX) (i : Nat) (m : M AL) : TA := fun σ H Q => ∃ F env ad, SR S σ H F env ad ∧ Post S W σ F (m env) fun as _ H' F' _ => ∀ vs, ArgR S.T F' σ i vs as → Q vs H'
def xNil : M AL := fun env => .ok [] env
def xDat (m : M D) (l : M AL) : M AL := fun env => (m env).bind fun d e => (l e).bind fun as e2 => .ok (some d :: as) e2
def xOwn (i : Nat) (l : M AL) : M AL := fun env => match env[i]? with
  | some s => (match s.ow with
    | some _ => (l env).bind fun as e2 => .ok (none :: as) e2
    | none => .bad)
  | none => .bad
section
variable {X : Cx} {S : Gd} {W : WX} {e : Expr} {es : List Expr} {i : Nat} {m : M D} {l : M AL}
theorem dx_nil : PA X [] (tX S W i xNil) := PA.imp pa_nil fun σ H Q ⟨F, env, ad, sr, p⟩ => p H F ad (Le.refl F) sr [] .nil
theorem dx_dat (h : PE X e (tD S W m)) (hr : PA X es (tX S W i l)) (hs : starEach (e :: es) X.env = (false, eval e X.env) :: starEach es X.env := by exact star_ok _ _ _ rfl) : PA X (e :: es) (tX S W i (xDat m l)) :=
  PA.imp (pa_cons h hr hs) fun σ H Q ⟨F, env, ad, sr, p⟩ => ⟨F, env, ad, sr, p.bind.imp fun d e1 H1 F1 ad1 le1 sr1 q v r => ⟨F1, e1, ad1, sr1, q.2.bind.imp fun ds e2 H2 F2 ad2 le2 sr2 q2 vs rs => q2.2 H2 F2 ad2 (Le.refl F2) sr2 _ (.dat (r.mono le2) rs)⟩⟩
theorem dx_own (h : PE X e (tVar i)) (hr : PA X es (tX S W i l)) (hs : starEach (e :: es) X.env = (false, eval e X.env) :: starEach es X.env := by exact star_ok _ _ _ rfl) : PA X (e :: es) (tX S W i (xOwn i l)) :=
  PA.imp (pa_cons h hr hs) fun σ H Q ⟨F, env, ad, sr, p⟩ => by
    unfold xOwn at p
    cases q : env[i]? with
    | none => rw [q] at p; exact p.elim
    | some s =>
      rw [q] at p
      cases q2 : s.ow with
      | none =>
        have p2 : Post S W σ F (match s.ow with | some _ => (l env).bind fun as e2 => .ok (none :: as) e2 | none => .bad) _ := p
        rw [q2] at p2
        exact p2.elim
      | some o =>
        have p2 : Post S W σ F (match s.ow with | some _ => (l env).bind fun as e2 => .ok (none :: as) e2 | none => .bad) _ := p
        rw [q2] at p2
        obtain ⟨b, hb, _⟩ := SlotAt.ow (sr.at_ i _ q) q2
        exact ⟨_, hb, F, env, ad, sr, p2.bind.imp fun ds e2 H2 F2 ad2 le2 sr2 q2 vs rs => q2.2 H2 F2 ad2 (Le.refl F2) sr2 _ (.own hb rs)⟩
end
def slotsX (o : Option Own) : AL → Option (List Slot)
  | [] => some []
  | some d :: r => (slotsX o r).map (.dat d :: ·)
  | none :: r => o.bind fun x => if r.all Option.isSome = true then (slotsX o r).map (.lent x :: ·) else none
def backX (env : Env) (i : Nat) : AL → List Slot → Option Env
  | [], [] => some env
  | some _ :: r, _ :: s => backX env i r s
  | none :: _, .lent o :: _ => (match env[i]? with
    | some s => some (env.set i (s.re o))
    | none => none)
  | _, _ => none
theorem slotsX_get {o : Option Own} : ∀ {as : AL} {ss : List Slot}, slotsX o as = some ss → ss.length = as.length ∧ (∀ (j : Nat) (s : Slot), ss[j]? = some s → (∃ d, as[j]? = some (some d) ∧ s = .dat d) ∨ ∃ x, as[j]? = some none ∧ o = some x ∧ s = .lent x) ∧ ∀ i j : Nat, as[i]? = some none → as[j]? = some none → i = j
  | [], ss, h => by
    cases h
    exact ⟨rfl, fun j s e => by simp at e, fun i j e => by simp at e⟩
  | some d :: r, ss, h => by
    obtain ⟨ss', h1, h2⟩ := Option.map_eq_some_iff.mp h
    subst h2
    obtain ⟨i1, i2, i3⟩ := slotsX_get h1
    refine ⟨by simp [i1], fun j s e => ?_, fun i j e f => ?_⟩
    · cases j with
      | zero => simp at e; subst e; exact .inl ⟨d, rfl, rfl⟩
      | succ j =>
        simp at e
        rcases i2 j s e with ⟨x, y1, y2⟩ | ⟨x, y1, y2, y3⟩
        · exact .inl ⟨x, by simpa using y1, y2⟩
        · exact .inr ⟨x, by simpa using y1, y2, y3⟩
    · cases i with
      | zero => simp at e
      | succ i =>
        cases j with
        | zero => simp at f
        | succ j => rw [i3 i j (by simpa using e) (by simpa using f)]
  | none :: r, ss, h => by
    obtain ⟨x, h1, h2⟩ := Option.bind_eq_some_iff.mp h
    split at h2
    · rename_i hall
      obtain ⟨ss', h3, h4⟩ := Option.map_eq_some_iff.mp h2
      subst h4
      obtain ⟨i1, i2, i3⟩ := slotsX_get h3
      have hno : ∀ j : Nat, r[j]? ≠ some none := fun j e => by
        have := List.all_eq_true.mp hall _ (List.mem_of_getElem? e)
        cases this
      refine ⟨by simp [i1], fun j s e => ?_, fun i j e f => ?_⟩
      · cases j with
        | zero => simp at e; subst e; exact .inr ⟨x, rfl, h1, rfl⟩
        | succ j =>
          simp at e
          rcases i2 j s e with ⟨x, y1, y2⟩ | ⟨x, y1, y2, y3⟩
          · exact .inl ⟨x, by simpa using y1, y2⟩
          · exact absurd y1 (hno j)
      · cases i with
        | zero =>
          cases j with
          | zero => rfl
          | succ j => exact absurd (by simpa using f) (hno j)
        | succ i => exact absurd (by simpa using e) (hno i)
    · cases h2
theorem slotsX_handed {o : Option Own} : ∀ {as : AL} {ss : List Slot}, slotsX o as = some ss → ss.all handed = true
  | [], ss, h => by cases h; rfl
  | some d :: r, ss, h => by
    obtain ⟨ss', h1, h2⟩ := Option.map_eq_some_iff.mp h
    subst h2
    rw [List.all_cons, slotsX_handed h1]
    rfl
  | none :: r, ss, h => by
    obtain ⟨x, h1, h2⟩ := Option.bind_eq_some_iff.mp h
    split at h2
    · obtain ⟨ss', h3, h4⟩ := Option.map_eq_some_iff.mp h2
      subst h4
      rw [List.all_cons, slotsX_handed h3]
      rfl
    · cases h2
theorem backX_get {env e2 : Env} {i : Nat} : ∀ {as : AL} {ss : List Slot}, backX env i as ss = some e2 → (e2 = env ∧ ∀ j : Nat, as[j]? ≠ some none) ∨ ∃ (j : Nat) (o : Own) (s : Slot), as[j]? = some none ∧ ss[j]? = some (.lent o) ∧ env[i]? = some s ∧ e2 = env.set i (s.re o)
  | [], [], h => by cases h; exact .inl ⟨rfl, fun j e => by simp at e⟩
  | [], _ :: _, h => by cases h
  | some d :: r, [], h => by cases h
  | some d :: r, s :: ss, h => by
    rcases backX_get (as := r) (ss := ss) h with ⟨h1, h2⟩ | ⟨j, o, s, h1, h2, h3, h4⟩
    · exact .inl ⟨h1, fun j e => by
        cases j with
        | zero => simp at e
        | succ j => exact h2 j (by simpa using e)⟩
    · exact .inr ⟨j + 1, o, s, by simpa using h1, by simpa using h2, h3, h4⟩
  | none :: r, [], h => by cases h
  | none :: r, .lent o :: ss, h => by
    have h2 : (match env[i]? with | some s => some (env.set i (s.re o)) | none => none) = some e2 := h
    split at h2
    · rename_i s hs
      cases h2
      exact .inr ⟨0, o, s, rfl, rfl, hs, rfl⟩
    · cases h2
  | none :: r, .emp :: ss, h => by cases h
  | none :: r, .dat _ :: ss, h => by cases h
  | none :: r, .own _ :: ss, h => by cases h
def runX (i n : Nat) (φ : Fn) (as : AL) (env : Env) : Res D := if as.length = n then (match slotsX ((env[i]?).bind Slot.ow) as with
  | none => .bad
  | some ss => match φ ss with
    | .rt d ss' => (match backX env i as ss' with
      | some e2 => .ok d e2
      | none => .bad)
    | .exc c ss' => (match backX env i as ss' with
      | some e2 => .exc c e2
      | none => .bad)
    | .bad => .bad) else .bad
def eFn (i n : Nat) (φ : Fn) (l : M AL) : M D := fun env => (l env).bind fun as e => runX i n φ as e
section
variable {S : Gd} {W : WX} {σ : L2.St} {H F : Hp} {env : Env} {ad : Nat → List Addr} {i n : Nat} {φ : Fn} {as : AL} {vs : List V} {Q : VK} {E : XK}
theorem run_spF (sr : SR S σ H F env ad) (ra : ArgR S.T F σ i vs as) (p : Post S W σ F (runX i n φ as env) fun d _ H' F' _ => ∀ v, Rp S.T F' v d → Q v H') (hE : ∀ C H', W (.ref C) none σ H' → E (.ref C) none H') : spF S.T n φ vs H Q E := by
  unfold runX at p
  by_cases hn : as.length = n
  case neg => rw [if_neg hn] at p; exact p.elim
  rw [if_pos hn] at p
  cases q : slotsX ((env[i]?).bind Slot.ow) as with
  | none => rw [q] at p; exact p.elim
  | some ss =>
    rw [q] at p
    simp only at p
    obtain ⟨g1, g2, g3⟩ := slotsX_get q
    have hlv : vs.length = as.length := ra.length
    let OA : List Addr := if as.all Option.isSome = true then [] else ad i
    let adc : Nat → List Addr := fun j => match as[j]? with
      | some none => ad i
      | _ => []
    have adc_in : ∀ j a, a ∈ adc j → as[j]? = some none ∧ a ∈ ad i := fun j a ha => by
      have ha2 : a ∈ (match as[j]? with | some none => ad i | _ => []) := ha
      split at ha2
      · rename_i z
        exact ⟨z, ha2⟩
      · cases ha2
    have noall : ∀ j : Nat, as[j]? = some none → ¬ as.all Option.isSome = true := fun j e z => by
      have := List.all_eq_true.mp z _ (List.mem_of_getElem? e)
      cases this
    have sc : SR (gd S.T H F OA vs) (vs.map some) H F ss adc := by
      refine sr.enter (by rw [g1]; exact hlv) (fun j s e => ?_) (fun j hj => ?_) (fun a b c ha hb => ?_) (fun j a ha => ?_)
      · rcases g2 j s e with ⟨d, y1, y2⟩ | ⟨x, y1, y2, y3⟩
        · subst y2
          obtain ⟨v, v1, v2⟩ := ra.get y1
          refine ⟨?_, v, ?_, v2⟩
          · show (match as[j]? with | some none => ad i | _ => []) = []
            rw [y1]
          · rw [List.getElem?_map, v1]
            rfl
        · subst y3
          obtain ⟨v, v1, v2⟩ := ra.get y1
          obtain ⟨s0, z1, z2⟩ := Option.bind_eq_some_iff.mp y2
          obtain ⟨b, w1, w2⟩ := SlotAt.ow (sr.at_ i _ z1) z2
          refine ⟨b, ?_, ?_⟩
          · rw [List.getElem?_map, v1]
            have v3 : σ[i]? = some (some v) := v2
            rw [w1] at v3
            cases v3
            rfl
          · show OwnAt S.T F H b x (match as[j]? with | some none => ad i | _ => [])
            rw [y1]
            exact w2
      · show (match as[j]? with | some none => ad i | _ => []) = []
        rw [List.getElem?_eq_none (by rw [← g1]; exact hj)]
      · exact g3 a b (adc_in a c ha).1 (adc_in b c hb).1
      · refine ⟨(sr.mine i a (adc_in j a ha).2).1, ?_⟩
        show a ∈ (if as.all Option.isSome = true then [] else ad i)
        rw [if_neg (noall j (adc_in j a ha).1)]
        exact (adc_in j a ha).2
    -- behind the call
    have after : ∀ (ss' : List Slot) (e2 : Env) (H' F' : Hp) (ad' : Nat → List Addr), backX env i as ss' = some e2 → SR (gd S.T H F OA vs) (vs.map some) H' F' ss' ad' → ∃ ad2, SR S σ H' F' e2 ad2 := fun ss' e2 H' F' ad' hb c => by
      rcases backX_get hb with ⟨z1, z2⟩ | ⟨j, o, s, z1, z2, z3, z4⟩
      · subst z1
        have hall : as.all Option.isSome = true := List.all_eq_true.mpr fun x hx => by
          cases x with
          | some d => rfl
          | none =>
            obtain ⟨j, hj⟩ := List.getElem?_of_mem hx
            exact absurd hj (z2 j)
        have hnil : OA = [] := if_pos hall
        have lv := sr.leave c e2.length fun a ha => by
          rw [hnil] at ha
          cases ha
        rw [List.set_eq_of_length_le (Nat.le_refl _)] at lv
        exact ⟨_, lv⟩
      · subst z4
        have hOAi : OA = ad i := if_neg (noall j z1)
        have hOA : ∀ a ∈ OA, (∀ j, j ≠ i → a ∉ ad j) ∧ F a = none ∧ (S.H0 a = none ∨ a ∈ S.OA) := fun a ha => by
          rw [hOAi] at ha
          exact ⟨fun j hj hb => hj (sr.dis j i a hb ha), sr.mine i a ha⟩
        have lv := sr.leave c i hOA
        obtain ⟨v, v1, v2⟩ := ra.get z1
        obtain ⟨b, w1, w2⟩ := c.at_ j _ z2
        have hσ : σ[i]? = some (some (.ref b)) := by
          rw [List.getElem?_map, v1] at w1
          have v3 : σ[i]? = some (some v) := v2
          rw [v3]
          exact w1
        have hlt : i < env.length := (List.getElem?_eq_some_iff.mp z3).1
        have rp := lv.reput i (s.re o) (ad' j) (by rw [List.length_set]; exact hlt) (SlotAt.re hσ w2) (fun k a hk ha => ?_) (fun a ha => ?_) (fun hl => ?_)
        · rw [List.set_set] at rp
          exact ⟨_, rp⟩
        · rw [setA_ne hk]
          intro hb2
          rcases (c.mine j a ha).2 with y | y
          · exact sr.somes hb2 y
          · exact (hOA a y).1 k hk hb2
        · refine ⟨(c.mine j a ha).1, ?_⟩
          rcases (c.mine j a ha).2 with y | y
          · exact .inl (sr.dom a y)
          · exact (hOA a y).2.2
        · cases s with
          | lent o2 => exact sr.fix i o2 z3
          | emp => cases hl
          | dat _ => cases hl
          | own _ => cases hl
    refine ⟨F, ss, adc, OA, by rw [hlv]; exact hn, sc, slotsX_handed q, ?_⟩
    cases q2 : φ ss with
    | rt d ss' =>
      rw [q2] at p
      simp only at p
      cases q3 : backX env i as ss' with
      | none => rw [q3] at p; exact p.elim
      | some e2 =>
        rw [q3] at p
        intro v H' F' ad' le c r
        obtain ⟨ad2, sr2⟩ := after ss' e2 H' F' ad' q3 c
        exact p H' F' ad2 le sr2 v r
    | exc cc ss' =>
      rw [q2] at p
      simp only at p
      cases q3 : backX env i as ss' with
      | none => rw [q3] at p; exact p.elim
      | some e2 =>
        rw [q3] at p
        intro C H' F' ad' hc le c
        obtain ⟨ad2, sr2⟩ := after ss' e2 H' F' ad' q3 c
        exact hE C H' (p C H' F' ad2 hc le sr2)
    | bad => rw [q2] at p; exact p.elim
end
end DL
set_option Elab.async false
set_option linter.all false
set_option maxRecDepth 100000
set_option maxHeartbeats 2000000
namespace DL
open PySem PySem.Spec PyProof.Rows L2
abbrev wOf (E : XK) : WX := fun c d _ H => E c d H
structure Cal (P : Program) (w : World) (T : Tb) (mg : Str → Option Value) (base : Heap) (k : Nat) (x : Str) (n : Nat) (φ : Fn) : Prop where
  ex : ∃ f fd ps, FnOk P w T.K mg base (L2N.CX P w) k f fd ps (spF T n φ) ∧ mg x = some (.ref f) ∧ PySem.W.keepIn T.K (.ref f) = true ∧ Binds T.K fd ps []
structure CalM (P : Program) (w : World) (T : Tb) (mg : Str → Option Value) (base : Heap) (k : Nat) (c m : Str) (n : Nat) (φ : Fn) : Prop where
  ex : ∃ C f fd ps, T.cls c = some C ∧ Cls T.K C ∧ Meth T.K C m f ∧ FnOk P w T.K mg base (L2N.CX P w) k f fd ps (spF T n φ) ∧ Binds T.K fd ps []
structure CalC (P : Program) (w : World) (T : Tb) (mg : Str → Option Value) (base : Heap) (k : Nat) (c : Str) (n : Nat) (φ : Fn) : Prop where
  ex : ∃ C f fd ps, T.cls c = some C ∧ mg c = some (.ref C) ∧ Mk T.K C f ∧ FnOk P w T.K mg base (L2N.CX P w) k f fd ps (spF T n φ) ∧ Binds T.K fd ps []
section
variable {X : Cx} {T : Tb} {H0 F0 : Hp} {OA : List Addr} {V0 : L2.St} {E : XK} {e o : Expr} {es : List Expr} {pos p apos : Pos} {i n k : Nat} {φ : Fn} {x c mth : Str} {l : M AL} {md : M D}
theorem t_fn {σ : L2.St} {H : Hp} {Q : VK} (h : tD ⟨T, H0, F0, OA, V0⟩ (wOf E) (eFn i n φ l) σ H Q) : tCall (spF T n φ) [] E (tX ⟨T, H0, F0, OA, V0⟩ (wOf E) i l) σ H Q := by
  obtain ⟨F, env, ad, sr, p⟩ := h
  refine ⟨F, env, ad, sr, p.bind.imp fun as e1 H1 F1 ad1 le1 sr1 q vs ra => ?_⟩
  show spF T n φ (vs ++ []) H1 Q E
  rw [List.append_nil]
  exact run_spF (W := wOf E) sr1 ra q.2 fun C H' z => z
theorem de_fn (C : Cal X.prog X.w T X.mg X.base k x n φ) (hr : Room k X.A) (tk : L2N.Takes X (wOf E)) (ha : PA X (e :: es) (tX ⟨T, H0, F0, OA, V0⟩ (wOf E) i l)) (hK : X.K = T.K := by rfl) (hg : Gl X x := by rfl) (hdb : (x == ("__debug__" : Str)) = false := by decide)
    (he : starEach (e :: es) X.env = (false, eval e X.env) :: starEach es X.env := by exact star_ok _ _ _ rfl) (hpl : (backTo pos (starEach es X.env)).any (·.1) = false := by rfl) : PE X (.Call (.Name x p) (e :: es) [] pos) (tD ⟨T, H0, F0, OA, V0⟩ (wOf E) (eFn i n φ l)) := by
  obtain ⟨f, fd, ps, h1, h2, h3, h4⟩ := C.ex
  rw [← hK] at h1 h3 h4
  exact PE.imp (pe_call h1 hr hg h2 h3 h4 .nil (L2N.passes_call tk fun _ _ _ _ z => z) ha hdb he hpl) fun σ H Q h => t_fn h
def selfOk (c mth : Str) : Slot → Bool
  | .own (.oi c' fs) => decide (c' = c) && (fs.lookup mth).isNone
  | .lent (.oi c' fs) => decide (c' = c) && (fs.lookup mth).isNone
  | _ => false
def eMeO (c mth : Str) (i n : Nat) (φ : Fn) (l : M AL) : M D := fun env => match env[i]? with
  | some s => if selfOk c mth s = true then (l env).bind fun as e => runX i n φ (none :: as) e else .bad
  | none => .bad
theorem fldAt_none {F H : Hp} {f : Str} : ∀ {us : List (Str × V)} {fs : List (Str × FS)} {qs : List Addr}, FldAt T F H us fs qs → fs.lookup f = none → us.lookup f = none
  | [], [], _, _, _ => rfl
  | [], _ :: _, _, h, _ => h.elim
  | _ :: _, [], _, h, _ => h.elim
  | (x, v) :: r, (y, .d d') :: s, qs, h, e => by
    obtain ⟨rfl, h2, h3⟩ := h
    rw [List.lookup_cons] at e ⊢
    cases q : (f == x) with
    | true => rw [q] at e; cases e
    | false =>
      rw [q] at e
      exact fldAt_none h3 e
  | (x, v) :: r, (y, .l ds) :: s, qs, h, e => by
    obtain ⟨rfl, q, qs', vs, rfl, h2, h3, h4, h5⟩ := h
    rw [List.lookup_cons] at e ⊢
    cases q : (f == x) with
    | true => rw [q] at e; cases e
    | false =>
      rw [q] at e
      exact fldAt_none h5 e
  | (x, v) :: r, (y, .t ks xs) :: s, qs, h, e => by
    obtain ⟨rfl, q, qs', rfl, h2, h3, h5⟩ := h
    rw [List.lookup_cons] at e ⊢
    cases q : (f == x) with
    | true => rw [q] at e; cases e
    | false =>
      rw [q] at e
      exact fldAt_none h5 e
theorem selfOk_at {F H : Hp} {s : Slot} {y : Option (Option V)} {fp : List Addr} (h : selfOk c mth s = true) (a : SlotAt T F H y s fp) : ∃ p C dx us, y = some (some (.ref p)) ∧ T.cls c = some C ∧ H p = some (.ins C dx us) ∧ us.lookup mth = none := by
  have key : ∀ (c' : Str) (fs : List (Str × FS)), (decide (c' = c) && (fs.lookup mth).isNone) = true → (∃ p, y = some (some (.ref p)) ∧ OwnAt T F H p (.oi c' fs) fp) → ∃ p C dx us, y = some (some (.ref p)) ∧ T.cls c = some C ∧ H p = some (.ins C dx us) ∧ us.lookup mth = none := fun c' fs h a => by
    rw [Bool.and_eq_true] at h
    have e1 : c' = c := of_decide_eq_true h.1
    subst e1
    obtain ⟨p, e2, C, dx, us, qs, k1, _, k2, _, k3⟩ := a
    exact ⟨p, C, dx, us, e2, k1, k2, fldAt_none k3.1 (by simpa using h.2)⟩
  cases s with
  | emp => cases h
  | dat _ => cases h
  | own o =>
    cases o with
    | oi c' fs => exact key c' fs h a
    | ol _ => cases h
    | od _ => cases h
    | oz => cases h
    | oll _ => cases h
    | ot _ _ => cases h
  | lent o =>
    cases o with
    | oi c' fs => exact key c' fs h a
    | ol _ => cases h
    | od _ => cases h
    | oz => cases h
    | oll _ => cases h
    | ot _ _ => cases h
theorem t_meO {C : Addr} {σ : L2.St} {H : Hp} {Q : VK} (hC : T.cls c = some C) (h : tD ⟨T, H0, F0, OA, V0⟩ (wOf E) (eMeO c mth i n φ l) σ H Q) : tMeth C mth (spF T n φ) [] E (tVar i) (tX ⟨T, H0, F0, OA, V0⟩ (wOf E) i l) σ H Q := by
  obtain ⟨F, env, ad, sr, p⟩ := h
  unfold eMeO at p
  cases q : env[i]? with
  | none => rw [q] at p; exact p.elim
  | some s =>
    rw [q] at p
    simp only at p
    by_cases hs : selfOk c mth s = true
    · rw [if_pos hs] at p
      obtain ⟨b, C', dx, us, e1, e2, e3, e4⟩ := selfOk_at hs (sr.at_ i _ q)
      rw [hC] at e2
      cases e2
      refine ⟨_, e1, b, dx, us, rfl, e3, e4, F, env, ad, sr, p.bind.imp fun as e5 H1 F1 ad1 le1 sr1 q vs ra => ?_⟩
      show spF T n φ (V.ref b :: (vs ++ [])) H1 Q E
      rw [List.append_nil]
      exact run_spF (W := wOf E) sr1 (.own e1 ra) q.2 fun C H' z => z
    · rw [if_neg hs] at p
      exact p.elim
theorem de_meO (C : CalM X.prog X.w T X.mg X.base k c mth n φ) (hr : Room k X.A) (tk : L2N.Takes X (wOf E)) (ho : PE X o (tVar i)) (ha : PA X (e :: es) (tX ⟨T, H0, F0, OA, V0⟩ (wOf E) i l)) {pl : Sem Bool} (hK : X.K = T.K := by rfl)
    (hst : starEach (e :: es) X.env = (false, eval e X.env) :: starEach es X.env := by exact star_ok _ _ _ rfl) (hpl : (backTo pos (starEach es X.env)).any (·.1) = false := by rfl)
    (ht : eval (.Call (.Attribute o mth apos) (e :: es) [] pos) X.env = (do
      let ov ← eval o X.env
      standAt apos.atName
      let (f, first) ← holding [ov] (getMethod ov mth pl)
      callWith pos f first (backTo pos (starEach (e :: es) X.env)) (backToKw pos (keywordEach [] X.env))) := by rfl) : PE X (.Call (.Attribute o mth apos) (e :: es) [] pos) (tD ⟨T, H0, F0, OA, V0⟩ (wOf E) (eMeO c mth i n φ l)) := by
  obtain ⟨C', f, fd, ps, h0, h1, h2, h3, h4⟩ := C.ex
  rw [← hK] at h1 h2 h3 h4
  exact PE.imp (pe_meth ho h1 h2 h3 hr h4 .nil (L2N.passes_call tk fun _ _ _ _ z => z) ha hst hpl ht) fun σ H Q h => t_meO h0 h
theorem de_meO0 (C : CalM X.prog X.w T X.mg X.base k c mth n φ) (hr : Room k X.A) (tk : L2N.Takes X (wOf E)) (ho : PE X o (tVar i)) {pl : Sem Bool} (hK : X.K = T.K := by rfl)
    (ht : eval (.Call (.Attribute o mth apos) [] [] pos) X.env = (do
      let ov ← eval o X.env
      standAt apos.atName
      let (f, first) ← holding [ov] (getMethod ov mth pl)
      callWith pos f first (backTo pos (starEach [] X.env)) (backToKw pos (keywordEach [] X.env))) := by rfl) : PE X (.Call (.Attribute o mth apos) [] [] pos) (tD ⟨T, H0, F0, OA, V0⟩ (wOf E) (eMeO c mth i n φ xNil)) := by
  obtain ⟨C', f, fd, ps, h0, h1, h2, h3, h4⟩ := C.ex
  rw [← hK] at h1 h2 h3 h4
  refine PE.imp (pe_meth0 ho h1 h2 h3 hr h4 .nil (L2N.passes_call tk fun _ _ _ _ z => z) ht) fun σ H Q h => ?_
  obtain ⟨a, r1, b, dx, fs, r2, r3, r4, F, env, ad, sr, p⟩ := t_meO h0 h
  exact ⟨a, r1, b, dx, fs, r2, r3, r4, p H F ad (Le.refl F) sr [] .nil⟩
def insOk (c mth : Str) : D → Bool
  | .ins c' ns _ => decide (c' = c) && !ns.contains mth
  | _ => false
def eMeD (c mth : Str) (i n : Nat) (φ : Fn) (md : M D) (l : M AL) : M D := fun env => (md env).bind fun d e1 => if insOk c mth d = true then (l e1).bind fun as e => runX i n φ (some d :: as) e else .bad
theorem lookup_no {fs : List (Str × V)} {f : Str} (h : (fs.map (·.1)).contains f = false) : fs.lookup f = none := by
  induction fs with
  | nil => rfl
  | cons q r ih =>
    rw [List.map_cons, List.contains_cons, Bool.or_eq_false_iff] at h
    obtain ⟨a, b⟩ := q
    rw [List.lookup_cons]
    have h1 : (f == a) = false := h.1
    rw [h1]
    exact ih h.2
theorem t_meD {C : Addr} {σ : L2.St} {H : Hp} {Q : VK} (hC : T.cls c = some C) (h : tD ⟨T, H0, F0, OA, V0⟩ (wOf E) (eMeD c mth i n φ md l) σ H Q) : tMeth C mth (spF T n φ) [] E (tD ⟨T, H0, F0, OA, V0⟩ (wOf E) md) (tX ⟨T, H0, F0, OA, V0⟩ (wOf E) i l) σ H Q := by
  obtain ⟨F, env, ad, sr, p⟩ := h
  refine ⟨F, env, ad, sr, p.bind.imp fun d e1 H1 F1 ad1 le1 sr1 q v r => ?_⟩
  have q2 := q.2
  by_cases hs : insOk c mth d = true
  · rw [if_pos hs] at q2
    cases r with
    | ins c1 h1 n1 r1 =>
      have hs2 : (decide (_ = c) && !List.contains _ mth) = true := hs
      rw [Bool.and_eq_true] at hs2
      have e1 := of_decide_eq_true hs2.1
      subst e1
      have hC2 : T.cls _ = some _ := c1
      rw [hC] at hC2
      cases hC2
      refine ⟨_, _, _, rfl, sr1.sub _ _ h1, lookup_no (by rw [n1]; simpa using hs2.2), F1, _, ad1, sr1, q2.bind.imp fun as e5 H2 F2 ad2 le2 sr2 q vs ra => ?_⟩
      show spF T n φ (_ :: (vs ++ [])) H2 Q E
      rw [List.append_nil]
      exact run_spF (W := wOf E) sr2 (.dat ((Rp.ins c1 h1 n1 r1).mono le2) ra) q.2 fun C H' z => z
    | non => cases hs
    | bl _ => cases hs
    | int _ => cases hs
    | str _ => cases hs
    | lst _ _ => cases hs
    | tup _ _ => cases hs
    | scr _ => cases hs
    | exc _ _ => cases hs
    | dct _ _ _ _ => cases hs
    | wd _ => cases hs
    | raw _ => cases hs
  · rw [if_neg hs] at q2
    exact q2.elim
theorem de_meD (C : CalM X.prog X.w T X.mg X.base k c mth n φ) (hr : Room k X.A) (tk : L2N.Takes X (wOf E)) (ho : PE X o (tD ⟨T, H0, F0, OA, V0⟩ (wOf E) md)) (ha : PA X (e :: es) (tX ⟨T, H0, F0, OA, V0⟩ (wOf E) i l)) {pl : Sem Bool} (hK : X.K = T.K := by rfl)
    (hst : starEach (e :: es) X.env = (false, eval e X.env) :: starEach es X.env := by exact star_ok _ _ _ rfl) (hpl : (backTo pos (starEach es X.env)).any (·.1) = false := by rfl)
    (ht : eval (.Call (.Attribute o mth apos) (e :: es) [] pos) X.env = (do
      let ov ← eval o X.env
      standAt apos.atName
      let (f, first) ← holding [ov] (getMethod ov mth pl)
      callWith pos f first (backTo pos (starEach (e :: es) X.env)) (backToKw pos (keywordEach [] X.env))) := by rfl) : PE X (.Call (.Attribute o mth apos) (e :: es) [] pos) (tD ⟨T, H0, F0, OA, V0⟩ (wOf E) (eMeD c mth i n φ md l)) := by
  obtain ⟨C', f, fd, ps, h0, h1, h2, h3, h4⟩ := C.ex
  rw [← hK] at h1 h2 h3 h4
  exact PE.imp (pe_meth ho h1 h2 h3 hr h4 .nil (L2N.passes_call tk fun _ _ _ _ z => z) ha hst hpl ht) fun σ H Q h => t_meD h0 h
theorem de_meD0 (C : CalM X.prog X.w T X.mg X.base k c mth n φ) (hr : Room k X.A) (tk : L2N.Takes X (wOf E)) (ho : PE X o (tD ⟨T, H0, F0, OA, V0⟩ (wOf E) md)) {pl : Sem Bool} (hK : X.K = T.K := by rfl)
    (ht : eval (.Call (.Attribute o mth apos) [] [] pos) X.env = (do
      let ov ← eval o X.env
      standAt apos.atName
      let (f, first) ← holding [ov] (getMethod ov mth pl)
      callWith pos f first (backTo pos (starEach [] X.env)) (backToKw pos (keywordEach [] X.env))) := by rfl) : PE X (.Call (.Attribute o mth apos) [] [] pos) (tD ⟨T, H0, F0, OA, V0⟩ (wOf E) (eMeD c mth i n φ md xNil)) := by
  obtain ⟨C', f, fd, ps, h0, h1, h2, h3, h4⟩ := C.ex
  rw [← hK] at h1 h2 h3 h4
  refine PE.imp (pe_meth0 ho h1 h2 h3 hr h4 .nil (L2N.passes_call tk fun _ _ _ _ z => z) ht) fun σ H Q h => ?_
  obtain ⟨F, env, ad, sr, p⟩ := t_meD h0 h
  exact ⟨F, env, ad, sr, p.imp fun d e1 H1 F1 ad1 le1 sr1 q v r => by
    obtain ⟨b, dx, fs, r2, r3, r4, F2, e2, ad2, sr2, p2⟩ := q v r
    exact ⟨b, dx, fs, r2, r3, r4, p2 H1 F2 ad2 (Le.refl F2) sr2 [] .nil⟩⟩
end
def tO (S : Gd) (W : WX) (m : M Own) : TE := fun σ H Q => ∃ F env ad, SR S σ H F env ad ∧ Post S W σ F (m env) fun o _ H' F' ad' => ∀ p fp, OwnAt S.T F' H' p o fp → (∀ a ∈ fp, F' a = none ∧ S.H0 a = none ∧ ∀ j, a ∉ ad' j) → Q (.ref p) H'
section
variable {X : Cx} {S : Gd} {W : WX} {e : Expr} {es : List Expr} {pos : Pos} {m : M Own} {l : M (List D)}
def eFrz (m : M Own) : M D := fun env => (m env).bind fun o e => lift o.dat? e
theorem de_frz (h : PE X e (tO S W m)) : PE X e (tD S W (eFrz m)) :=
  PE.imp h fun σ H Q ⟨F, env, ad, sr, p⟩ => ⟨F, env, ad, sr, p.bind.imp fun o e1 H1 F1 ad1 le1 sr1 q b fp oa hf => by
    obtain ⟨d, e2, q2⟩ := Post.lift q.2
    have le : Le F1 (fun a => if a ∈ fp then H1 a else F1 a) := fun a u e => by
      show (if a ∈ fp then H1 a else F1 a) = some u
      rw [if_neg fun z => by rw [(hf a z).1] at e; cases e]
      exact e
    refine q2 H1 (fun a => if a ∈ fp then H1 a else F1 a) ad1 le ?_ _ (own_rp le oa (fun a ha => if_pos ha) e2)
    refine ⟨sr1.len, fun a u e => ?_, fun i s e => (sr1.at_ i s e).mono le fun _ _ => rfl, sr1.out, sr1.dis, fun i a ha => ⟨?_, (sr1.mine i a ha).2⟩, sr1.keep, sr1.tab, fun a u e => ?_, fun a u e => ?_, sr1.le0.trans le, sr1.dom, sr1.fix⟩
    · have e3 : (if a ∈ fp then H1 a else F1 a) = some u := e
      by_cases z : a ∈ fp
      · rw [if_pos z] at e3; exact e3
      · rw [if_neg z] at e3; exact sr1.sub a u e3
    · show (if a ∈ fp then H1 a else F1 a) = none
      rw [if_neg fun z => (hf a z).2.2 i ha]
      exact (sr1.mine i a ha).1
    · have e3 : (if a ∈ fp then H1 a else F1 a) = some u := e
      by_cases z : a ∈ fp
      · rw [if_pos z] at e3
        obtain ⟨w, e4, e5⟩ := ownAt_kind oa z
        rw [e3] at e4
        cases e4
        exact e5.notb
      · rw [if_neg z] at e3; exact sr1.notb a u e3
    · have e3 : (if a ∈ fp then H1 a else F1 a) = some u := e
      by_cases z : a ∈ fp
      · exact .inr (.inl (hf a z).2.1)
      · rw [if_neg z] at e3; exact sr1.old a u e3⟩
def sOwn (m : M Own) (i : Nat) : Env → Fl := fun env => (m env).fl fun o e => .nx (e.set i (.own o))
theorem ds_own {i : Nat} {x : Str} {pos' : Pos} (hN : X.N.Nodup) (hi : X.N[i]? = some x) (hx : Loc X.env.scope x) (he : PE X e (tO S W m)) (hlt : i < X.N.length := by exact Nat.le_of_ble_eq_true rfl) (hs : swapsWith e (some (.Name x pos')) pos.line X.env = pure false := by rfl)
    (hf : X.fn x = true ∨ X.env.scope.names.lookup x = some .local := by first | exact .inl rfl | exact .inr rfl | assumption) : PS X (.Assign [.Name x pos'] e pos) (tS S W (sOwn m i)) :=
  PS.imp (ps_set hN hi hx he hs hf) fun d σ H ⟨F, env, ad, sr, p⟩ => ⟨F, env, ad, sr, (Post.fl p).imp fun o e1 H1 F1 ad1 le1 sr1 q b fp oa hf => by
    by_cases hl : i < e1.length
    · exact q _ H1 F1 _ (Le.refl F1) (sr1.put i (some (.ref b)) (.own o) fp rfl (fun _ => ⟨b, rfl, oa⟩) (fun z => absurd hl (by omega)) (fun j a _ ha => (hf a ha).2.2 j) fun a ha => ⟨(hf a ha).1, .inl (hf a ha).2.1⟩)
    · have e0 : e1.set i (.own o) = e1 := List.set_eq_of_length_le (by omega)
      have e2 : σ.set i (some (.ref b)) = σ := List.set_eq_of_length_le (by have := sr1.len; omega)
      rw [e0] at q
      show d.nx (σ.set i (some (V.ref b))) H1
      rw [e2]
      exact q σ H1 F1 ad1 (Le.refl F1) sr1⟩
def oLst (l : M (List D)) : M Own := fun env => (l env).bind fun ds e => if ds.length ≤ 1000 then .ok (.ol ds) e else .bad
theorem do_lst (h : PA X es (tL S W l)) : PE X (.List es pos) (tO S W (oLst l)) :=
  PE.imp (pe_lst h) fun σ H Q ⟨F, env, ad, sr, p⟩ => ⟨F, env, ad, sr, p.bind.imp fun ds e1 H1 F1 ad1 le1 sr1 q vs rs => by
    have q2 := q.2
    by_cases hl : ds.length ≤ 1000
    · rw [if_pos hl] at q2
      refine ⟨by rw [rs.length]; exact size1000 hl, fun b hb => ?_⟩
      refine q2 _ F1 ad1 (Le.refl F1) (sr1.more hb) b [b] ⟨rfl, vs, upd_same, rs⟩ fun a ha => ?_
      rcases List.mem_cons.mp ha with z | z
      · subst z
        exact ⟨sr1.fnone hb, sr1.dom a hb, fun j hj => sr1.somes hj hb⟩
      · cases z
    · rw [if_neg hl] at q2
      exact q2.elim⟩
end
end DL
set_option Elab.async false
set_option linter.all false
set_option maxRecDepth 100000
set_option maxHeartbeats 2000000
namespace DL
open PySem PySem.Spec PyProof.Rows L2
theorem PE.all {X : Cx} {e : Expr} {α : Type} {t : α → TE} (h : ∀ x, PE X e (t x)) : PE X e (fun σ H Q => ∃ x, t x σ H Q) := ⟨fun pins s σ H Q I ⟨x, q⟩ => (h x).run pins s σ H Q I q⟩
theorem PTs.all {X : Cx} {e : List Expr} {α : Type} {t : α → TT} (h : ∀ x, PTs X e (t x)) : PTs X e (fun σ H Q => ∃ x, t x σ H Q) := ⟨fun pins s σ H Q I ⟨x, q⟩ => (h x).run pins s σ H Q I q⟩
theorem PG.all {X : Cx} {e : Expr} {α : Type} {t : α → TG} (h : ∀ x, PG X e (t x)) : PG X e (fun v σ H Q => ∃ x, t x v σ H Q) := ⟨fun pins s σ H v u Q I r ⟨x, q⟩ => (h x).run pins s σ H v u Q I r q⟩
theorem PI.all {X : Cx} {tg e : Expr} {α : Type} {t : α → TI} (h : ∀ x, PI X tg e (t x)) : PI X tg e (fun σ H Q => ∃ x, t x σ H Q) := ⟨fun pins s σ H Q I ⟨x, q⟩ => (h x).run pins s σ H Q I q⟩
theorem PTs.imp {X : Cx} {e : List Expr} {t t' : TT} (h : PTs X e t) (i : ∀ σ H Q, t' σ H Q → t σ H Q) : PTs X e t' := ⟨fun pins s σ H Q I q => h.run pins s σ H Q I (i σ H Q q)⟩
abbrev W0 : WX := wOf E0
def bYes : M Bool := fun env => .ok true env
theorem dts_nil {X : Cx} {S : Gd} {W : WX} : PTs X [] (tT S W bYes) := PTs.imp pts_nil fun σ H Q ⟨F, env, ad, sr, p⟩ => p H F ad (Le.refl F) sr
theorem dts_one {X : Cx} {S : Gd} {W : WX} {c : Expr} {t : M Bool} (h : PT X c (tT S W t)) : PTs X [c] (tT S W t) := pts_one h
def wipeE (e : Env) : List Nat → Env
  | [] => e
  | v :: vs => (wipeE e vs).set v .emp
theorem wipeE_length (e : Env) : ∀ vs : List Nat, (wipeE e vs).length = e.length
  | [] => rfl
  | v :: vs => by unfold wipeE; rw [List.length_set, wipeE_length e vs]
theorem wipeE_out {e : Env} {i : Nat} : ∀ {vs : List Nat}, i ∉ vs → (wipeE e vs)[i]? = e[i]?
  | [], _ => rfl
  | v :: vs, h => by
    unfold wipeE
    rw [get_set_ne fun z => h (by rw [z]; exact List.mem_cons_self ..)]
    exact wipeE_out fun z => h (List.mem_cons_of_mem _ z)
theorem wipeE_in {e : Env} {i : Nat} {s : Slot} : ∀ {vs : List Nat}, i ∈ vs → (wipeE e vs)[i]? = some s → s = .emp
  | [], h, _ => by cases h
  | v :: vs, h, q => by
    unfold wipeE at q
    by_cases z : i = v
    · subst z
      exact get_set_same q
    · rw [get_set_ne z] at q
      rcases List.mem_cons.mp h with y | y
      · exact absurd y z
      · exact wipeE_in y q
theorem wipe_eq {σ σ' : L2.St} {js : List Nat} : ∀ {vs : List Nat}, But js σ σ' → (∀ j ∈ js, j ∈ vs) → wipe σ' vs = wipe σ vs := fun {vs} b h => by
  apply List.ext_getElem?
  intro i
  by_cases hi : i ∈ vs
  · have key : ∀ (τ : L2.St) (ws : List Nat), i ∈ ws → (wipe τ ws)[i]? = if i < τ.length then some none else none := fun τ ws => by
      induction ws with
      | nil => intro z; cases z
      | cons v ws ih =>
        intro z
        unfold wipe
        by_cases y : i = v
        · subst y
          rw [List.getElem?_set]
          simp only [if_true, wipe_length]
        · rw [get_set_ne y]
          rcases List.mem_cons.mp z with y2 | y2
          · exact absurd y2 y
          · exact ih y2
    rw [key σ' vs hi, key σ vs hi, b.1]
  · rw [wipe_out hi, wipe_out hi]
    exact b.2 i fun z => hi (h i z)
section
variable {S : Gd} {σ : L2.St} {H F : Hp} {env : Env} {ad : Nat → List Addr}
theorem SR.wipe (h : SR S σ H F env ad) : ∀ vs : List Nat, ∃ ad', SR S (L2.wipe σ vs) H F (wipeE env vs) ad' ∧ ∀ j a, a ∈ ad' j → a ∈ ad j
  | [] => ⟨ad, h, fun _ _ z => z⟩
  | v :: vs => by
    obtain ⟨ad', h1, h2⟩ := SR.wipe h vs
    refine ⟨_, h1.drop v none, fun j a ha => ?_⟩
    by_cases z : j = v
    · rw [z, setA_same] at ha
      cases ha
    · rw [setA_ne z] at ha
      exact h2 j a ha
def back1 (e0 : Env) (e : Env) : List Nat → Env
  | [] => e
  | v :: vs => (back1 e0 e vs).set v (match e0[v]? with
    | some (.dat d) => .dat d
    | _ => .emp)
theorem back1_length (e0 e : Env) : ∀ vs : List Nat, (back1 e0 e vs).length = e.length
  | [] => rfl
  | v :: vs => by unfold back1; rw [List.length_set, back1_length e0 e vs]
theorem back1_out {e0 e : Env} {i : Nat} : ∀ {vs : List Nat}, i ∉ vs → (back1 e0 e vs)[i]? = e[i]?
  | [], _ => rfl
  | v :: vs, h => by
    unfold back1
    rw [get_set_ne fun z => h (by rw [z]; exact List.mem_cons_self ..)]
    exact back1_out fun z => h (List.mem_cons_of_mem _ z)
theorem back1_in {e0 e : Env} {i : Nat} {s : Slot} : ∀ {vs : List Nat}, i ∈ vs → (back1 e0 e vs)[i]? = some s → s = .emp ∨ ∃ d, s = .dat d ∧ e0[i]? = some (.dat d)
  | [], h, _ => by cases h
  | v :: vs, h, q => by
    unfold back1 at q
    by_cases z : i = v
    · subst z
      have q2 := get_set_same q
      split at q2
      · rename_i d hd
        exact .inr ⟨d, q2, hd⟩
      · exact .inl q2
    · rw [get_set_ne z] at q
      rcases List.mem_cons.mp h with y | y
      · exact absurd y z
      · exact back1_in y q
theorem SR.unwipe {H1 F1 : Hp} {e : Env} {ad1 : Nat → List Addr} (h0 : SR S σ H F env ad) {vs : List Nat} (le : Le F F1) (h : SR S (L2.wipe σ vs) H1 F1 (wipeE e vs) ad1) : SR S σ H1 F1 (back1 env (wipeE e vs) vs) ad1 := by
  have hl : σ.length = (wipeE e vs).length := by
    rw [← wipe_length σ vs]
    exact h.len
  refine ⟨by rw [back1_length]; exact hl, h.sub, fun i s q => ?_, fun i hi => h.out i (by rw [back1_length] at hi; exact hi), h.dis, h.mine, h.keep, h.tab, h.notb, h.old, h.le0, h.dom, fun i o q => ?_⟩
  · by_cases hi : i ∈ vs
    · have hlt : i < (wipeE e vs).length := by
        have := (List.getElem?_eq_some_iff.mp q).1
        rwa [back1_length] at this
      have ea : ad1 i = [] := by
        have z := h.at_ i _ (List.getElem?_eq_getElem hlt)
        rw [wipeE_in hi (List.getElem?_eq_getElem hlt)] at z
        exact z
      rcases back1_in hi q with z | ⟨d, z1, z2⟩
      · rw [z, ea]
        rfl
      · rw [z1, ea]
        obtain ⟨_, v, y1, y2⟩ := h0.at_ i _ z2
        exact ⟨rfl, v, y1, y2.mono le⟩
    · rw [back1_out hi] at q
      have z := h.at_ i s q
      rw [wipe_out hi] at z
      exact z
  · by_cases hi : i ∈ vs
    · rcases back1_in hi q with z | ⟨d, z1, z2⟩
      · cases z
      · cases z1
    · rw [back1_out hi] at q
      have z := h.fix i o q
      rw [wipe_out hi] at z
      exact z
def allA (n : Nat) (ad : Nat → List Addr) : List Addr := (List.range n).flatMap ad
theorem mem_allA {n : Nat} {a : Addr} : a ∈ allA n ad ↔ ∃ i, i < n ∧ a ∈ ad i := by
  unfold allA
  rw [List.mem_flatMap]
  exact ⟨fun ⟨i, h1, h2⟩ => ⟨i, List.mem_range.mp h1, h2⟩, fun ⟨i, h1, h2⟩ => ⟨i, List.mem_range.mpr h1, h2⟩⟩
theorem SR.base (h : SR S σ H F env ad) : SR ⟨S.T, H, F, allA env.length ad, S.V0⟩ σ H F env ad :=
  ⟨h.len, h.sub, h.at_, h.out, h.dis, fun i a ha => ⟨(h.mine i a ha).1, .inr (mem_allA.mpr ⟨i, Nat.lt_of_not_le (fun z => by rw [h.out i z] at ha; cases ha), ha⟩)⟩, fun _ _ _ e _ => e, h.tab, h.notb, fun _ _ e => .inl e, Le.refl F, fun _ e => e, h.fix⟩
theorem SR.unbase {σ' : L2.St} {H' F' : Hp} {env' : Env} {ad' : Nat → List Addr} (h : SR S σ H F env ad) (c : SR ⟨S.T, H, F, allA env.length ad, S.V0⟩ σ' H' F' env' ad') : SR S σ' H' F' env' ad' := by
  have oa : ∀ a, a ∈ allA env.length ad → F a = none ∧ (S.H0 a = none ∨ a ∈ S.OA) := fun a ha => by
    obtain ⟨i, _, h2⟩ := mem_allA.mp ha
    exact h.mine i a h2
  refine ⟨c.len, c.sub, c.at_, c.out, c.dis, fun i a ha => ?_, fun a o na e nt => ?_, c.tab, c.notb, fun a o e => ?_, h.le0.trans c.le0, fun a e => h.dom a (c.dom a e), c.fix⟩
  · refine ⟨(c.mine i a ha).1, ?_⟩
    rcases (c.mine i a ha).2 with z | z
    · exact .inl (h.dom a z)
    · exact (oa a z).2
  · refine c.keep a o (fun z => ?_) (h.keep a o na e nt) nt
    rcases (oa a z).2 with y | y
    · rw [e] at y; cases y
    · exact na y
  · rcases c.old a o e with z | z | z
    · exact h.old a o z
    · exact .inr (.inl (h.dom a z))
    · exact .inr (oa a z).2
theorem SR.aside {σ' : L2.St} {H' F' : Hp} {env' : Env} {ad' : Nat → List Addr} {p : Addr} {o : HO} (h : SR S σ H F env ad) (c : SR ⟨S.T, H, F, allA env.length ad, S.V0⟩ σ' H' F' env' ad') (hp : H p = some o) (nt : NoTbl o) (nf : F p = none) (na : ∀ j, p ∉ ad j) :
    H' p = some o ∧ F' p = none ∧ ∀ j, p ∉ ad' j := by
  have no : p ∉ allA env.length ad := fun z => by
    obtain ⟨i, _, h2⟩ := mem_allA.mp z
    exact na i h2
  refine ⟨c.keep p o no hp nt, ?_, fun j hj => ?_⟩
  · cases q : F' p with
    | none => rfl
    | some u =>
      rcases c.old p u q with z | z | z
      · have z2 : F p = some u := z
        rw [nf] at z2; cases z2
      · have z2 : H p = none := z
        rw [hp] at z2; cases z2
      · exact absurd z no
  · rcases (c.mine j p hj).2 with z | z
    · have z2 : H p = none := z
      rw [hp] at z2; cases z2
    · exact no z
theorem SR.side (h : SR S σ H F env ad) {p : Addr} {xs ys : List V} (hp : H p = some (.lst xs)) (nf : F p = none) (na : ∀ j, p ∉ ad j) (n0 : S.H0 p = none) : SR S σ (upd H p (.lst ys)) F env ad := by
  refine ⟨h.len, fun a u e => ?_, fun i s e => (h.at_ i s e).mono (Le.refl F) fun a ha => upd_ne fun z => na i (z ▸ ha), h.out, h.dis, h.mine, fun a u nA e nt => ?_, ⟨fun q hq => ?_, fun a ps e => h.tab.only a ps (upd_tbl (fun _ z => by cases z) e)⟩, h.notb, h.old, h.le0, fun a e => ?_, h.fix⟩
  · rw [upd_ne fun z => by rw [z, nf] at e; cases e]
    exact h.sub a u e
  · rw [upd_ne fun z => by rw [z, n0] at e; cases e]
    exact h.keep a u nA e nt
  · obtain ⟨ps, t1, t2, t3⟩ := h.tab.tabs q hq
    refine ⟨ps, ?_, t2, fun pos cv hc => ?_⟩
    · rw [upd_ne fun z => by rw [z, hp] at t1; cases t1]
      exact t1
    · obtain ⟨c, e1, e2⟩ := t3 pos cv hc
      refine ⟨c, e1, ?_⟩
      rw [upd_ne fun z => by rw [z, hp] at e2; cases e2]
      exact e2
  · by_cases z : a = p
    · rw [z, upd_same] at e; cases e
    · rw [upd_ne z] at e
      exact h.dom a e
end
def noX {α : Type} : Res α → Res α
  | .exc _ _ => .bad
  | r => r
def compD (vs : List Nat) (f : Tg) (tt : M Bool) (te : M D) : List D → Env → Res (List D)
  | [], env => .ok [] env
  | d :: r, env => match f d env with
    | none => .bad
    | some e1 => (noX (tt e1)).bind fun b e2 => if b = true then (noX (te e2)).bind fun y e3 => (compD vs f tt te r (wipeE e3 vs)).bind fun ys e4 => .ok (y :: ys) e4
      else compD vs f tt te r (wipeE e2 vs)
def oLc (vs : List Nat) (mi : M (List D)) (f : Tg) (tt : M Bool) (te : M D) : M Own := fun env => (mi env).bind fun ds e => if ds.length ≤ 1000000 then (compD vs f tt te ds (wipeE e vs)).bind fun ys e2 => .ok (.ol ys) (back1 e (wipeE e2 vs) vs) else .bad
theorem compD_ok {vs : List Nat} {f : Tg} {tt : M Bool} {te : M D} : ∀ {ds : List D} {env : Env}, (∃ ys e, compD vs f tt te ds env = .ok ys e) ∨ compD vs f tt te ds env = .bad
  | [], env => .inl ⟨[], env, rfl⟩
  | d :: r, env => by
    unfold compD
    split
    · exact .inr rfl
    · rename_i e1 _
      cases q : tt e1 with
      | bad => exact .inr rfl
      | exc c e2 => exact .inr rfl
      | ok b e2 =>
        show (∃ ys e, (if b = true then _ else _) = _) ∨ (if b = true then _ else _) = _
        cases b with
        | true =>
          rw [if_pos rfl]
          cases q2 : te e2 with
          | bad => exact .inr rfl
          | exc c e3 => exact .inr rfl
          | ok y e3 =>
            show (∃ ys e, (compD vs f tt te r (wipeE e3 vs)).bind _ = _) ∨ _
            rcases compD_ok (ds := r) (env := wipeE e3 vs) with ⟨ys, e4, h⟩ | h
            · exact .inl ⟨y :: ys, e4, by rw [h]; rfl⟩
            · exact .inr (by
                show (compD vs f tt te r (wipeE e3 vs)).bind _ = _
                rw [h]
                rfl)
        | false =>
          rw [if_neg Bool.false_ne_true]
          exact compD_ok
theorem compD_len {vs : List Nat} {f : Tg} {tt : M Bool} {te : M D} : ∀ {ds : List D} {env : Env} {ys : List D} {e : Env}, compD vs f tt te ds env = .ok ys e → ys.length ≤ ds.length
  | [], env, ys, e, h => by cases h; exact Nat.le_refl _
  | d :: r, env, ys, e, h => by
    unfold compD at h
    split at h
    · cases h
    · rename_i e1 _
      cases q : tt e1 with
      | bad => rw [q] at h; cases h
      | exc c e2 => rw [q] at h; cases h
      | ok b e2 =>
        rw [q] at h
        have h2 : (if b = true then (noX (te e2)).bind fun y e3 => (compD vs f tt te r (wipeE e3 vs)).bind fun ys e4 => .ok (y :: ys) e4 else compD vs f tt te r (wipeE e2 vs)) = Res.ok ys e := h
        cases b with
        | true =>
          rw [if_pos rfl] at h2
          cases q2 : te e2 with
          | bad => rw [q2] at h2; cases h2
          | exc c e3 => rw [q2] at h2; cases h2
          | ok y e3 =>
            rw [q2] at h2
            have h3 : ((compD vs f tt te r (wipeE e3 vs)).bind fun ys e4 => .ok (y :: ys) e4) = Res.ok ys e := h2
            rcases compD_ok (vs := vs) (f := f) (tt := tt) (te := te) (ds := r) (env := wipeE e3 vs) with ⟨zs, e4, q3⟩ | q3
            · rw [q3] at h3
              cases h3
              have := compD_len q3
              simp
              exact this
            · rw [q3] at h3
              cases h3
        | false =>
          rw [if_neg Bool.false_ne_true] at h2
          have := compD_len h2
          simp
          omega
section
variable {X : Cx} {S : Gd} {W : WX} {elt tg iter : Expr} {ifs : List Expr} {scope : Scope} {own : List (Str × Nat)} {pos : Pos} {mi : M (List D)} {f : Tg} {js : List Nat} {tt : M Bool} {te : M D}
abbrev Gr (S : Gd) := { S' : Gd // S'.T = S.T ∧ S'.V0 = S.V0 }
abbrev tGa (S : Gd) (js : List Nat) (f : Tg) : TG := fun v σ H Q => ∃ G : Gr S, tG G.1 js f v σ H Q
abbrev tTa (S : Gd) (t : M Bool) : TT := fun σ H Q => ∃ G : Gr S, tT G.1 W0 t σ H Q
abbrev tDa (S : Gd) (m : M D) : TE := fun σ H Q => ∃ G : Gr S, tD G.1 W0 m σ H Q
def grB (S : Gd) (H F : Hp) (n : Nat) (ad : Nat → List Addr) : Gr S := ⟨⟨S.T, H, F, allA n ad, S.V0⟩, rfl, rfl⟩
theorem t_lc {vs : List Nat} (hj : ∀ j ∈ js, j ∈ vs) {σ : L2.St} {H : Hp} {Q : VK} (h : tO S W (oLc vs mi f tt te) σ H Q) : tLc (tI S W mi) (tGa S js f) (tTa S tt) (tDa S te) vs σ H Q := by
  obtain ⟨F, env, ad, sr, p⟩ := h
  refine ⟨F, env, ad, sr, p.bind.imp fun ds e1 H1 F1 ad1 le1 sr1 q J hJ b hb => ?_⟩
  have q1 := q.2
  by_cases hlen : ds.length ≤ 1000000
  case neg => rw [if_neg hlen] at q1; exact q1.elim
  rw [if_pos hlen] at q1
  rcases compD_ok (vs := vs) (f := f) (tt := tt) (te := te) (ds := ds) (env := wipeE e1 vs) with ⟨ys, ez, hc⟩ | hc
  case inr => rw [hc] at q1; exact q1.elim
  rw [hc] at q1
  obtain ⟨ad0, sr0, sub0⟩ := sr1.wipe vs
  have n0 : S.H0 b = none := sr1.dom b hb
  have yl : ys.length ≤ ds.length := compD_len hc
  -- the word: what is still to be made, and what is there
  refine ⟨fun i m H => m = ds.length - i ∧ i ≤ ds.length ∧ ∃ F2 e2 ad2 done rest acc, ys = done ++ rest ∧ compD vs f tt te (ds.drop i) e2 = .ok rest ez ∧ Le F1 F2 ∧ SR S (wipe σ vs) H F2 e2 ad2 ∧ H b = some (.lst acc) ∧ RpAll S.T F2 acc done ∧ F2 b = none ∧ (∀ j, b ∉ ad2 j) ∧ (∃ e3, e2 = wipeE e3 vs) ∧ done.length ≤ ds.length,
    ⟨ds.length, by simp, Nat.zero_le _, F1, wipeE e1 vs, ad0, [], ys, [], rfl, hc, Le.refl F1, sr0.more hb, upd_same, .nil, sr1.fnone hb, fun j hj => sr1.somes (sub0 j b hj) hb, ⟨e1, rfl⟩, Nat.zero_le _⟩, ?_⟩
  rintro i m H ⟨rfl, hi, F2, e2, ad2, done, rest, acc, ey, hcd, le2, sr2, hacc, racc, nf, na, ⟨e3, ee⟩, hdl⟩
  by_cases hlt : i < ds.length
  · have hd : ds[i]? = some ds[i] := List.getElem?_eq_getElem hlt
    rw [List.drop_eq_getElem_cons hlt] at hcd
    unfold compD at hcd
    obtain ⟨g, y⟩ := hJ.turn hd sr2 le2
    cases q3 : f ds[i] e2 with
    | none => rw [q3] at hcd; cases hcd
    | some e4 =>
      rw [q3] at hcd
      simp only at hcd
      cases q4 : tt e4 with
      | bad => rw [q4] at hcd; cases hcd
      | exc c e5 => rw [q4] at hcd; cases hcd
      | ok bb e5 =>
        rw [q4] at hcd
        have hcd2 : (if bb = true then (noX (te e5)).bind fun y e3 => (compD vs f tt te (ds.drop (i + 1)) (wipeE e3 vs)).bind fun ys e4 => .ok (y :: ys) e4 else compD vs f tt te (ds.drop (i + 1)) (wipeE e5 vs)) = Res.ok rest ez := hcd
        refine .inr ⟨g, fun H' => i + 1 ≤ ds.length ∧ ∃ F2 e2 ad2 done rest acc, ys = done ++ rest ∧ compD vs f tt te (ds.drop (i + 1)) e2 = .ok rest ez ∧ Le F1 F2 ∧ SR S (wipe σ vs) H' F2 e2 ad2 ∧ H' b = some (.lst acc) ∧ RpAll S.T F2 acc done ∧ F2 b = none ∧ (∀ j, b ∉ ad2 j) ∧ (∃ e3, e2 = wipeE e3 vs) ∧ done.length ≤ ds.length, fun H' z => ⟨ds.length - (i + 1), by omega, rfl, z.1, z.2⟩, fun x H' hy => ?_⟩
        obtain ⟨F3, le3, sr3, r3, hb3⟩ := y x H' hy
        obtain ⟨hacc3, nf3⟩ := hb3 b _ hacc nf
        have wv : wipe (wipe σ vs) vs = wipe σ vs := wipe_eq (js := vs) ⟨wipe_length σ vs, fun j hj => wipe_out hj⟩ fun _ z => z
        -- at the turn's end
        have fin : ∀ (σ' : L2.St) (H6 F6 : Hp) (e6 : Env) (ad6 : Nat → List Addr) (acc' : List V) (done' rest' : List D), But js (wipe σ vs) σ' → SR ⟨S.T, H', F3, allA e2.length ad2, S.V0⟩ σ' H6 F6 e6 ad6 → ys = done' ++ rest' → compD vs f tt te (ds.drop (i + 1)) (wipeE e6 vs) = .ok rest' ez → RpAll S.T F6 acc' done' → done'.length ≤ ds.length →
            i + 1 ≤ ds.length ∧ ∃ F2 e2 ad2 done rest acc, ys = done ++ rest ∧ compD vs f tt te (ds.drop (i + 1)) e2 = .ok rest ez ∧ Le F1 F2 ∧ SR S (wipe σ vs) (upd H6 b (.lst acc')) F2 e2 ad2 ∧ (upd H6 b (.lst acc')) b = some (.lst acc) ∧ RpAll S.T F2 acc done ∧ F2 b = none ∧ (∀ j, b ∉ ad2 j) ∧ (∃ e3, e2 = wipeE e3 vs) ∧ done.length ≤ ds.length := fun σ' H6 F6 e6 ad6 acc' done' rest' but c h1 h2 h3 h4 => by
          obtain ⟨a1, a2, a3⟩ := sr3.aside c hacc3 notb_lst nf3 na
          have s6 := (sr3.unbase c).side (ys := acc') a1 a2 a3 n0
          obtain ⟨ad7, s7, sub7⟩ := s6.wipe vs
          have ew : wipe σ' vs = wipe σ vs := (wipe_eq but hj).trans wv
          rw [ew] at s7
          exact ⟨by omega, F6, wipeE e6 vs, ad7, done', rest', acc', h1, h2, (le2.trans le3).trans c.le0, s7, upd_same, h3, a2, fun j hj => a3 j (sub7 j b hj), ⟨e6, rfl⟩, h4⟩
        refine ⟨grB S H' F3 e2.length ad2, F3, e2, ad2, ds[i], e4, sr3.base, r3, q3, fun σ' ad' sr4 but => ⟨(wipe_eq but hj).trans wv, grB S H' F3 e2.length ad2, F3, e4, ad', sr4, ?_⟩⟩
        rw [q4]
        intro H5 F5 ad5 le5 sr5
        cases bb with
        | true =>
          rw [if_pos rfl] at hcd2 ⊢
          cases q5 : te e5 with
          | bad => rw [q5] at hcd2; cases hcd2
          | exc c e6 => rw [q5] at hcd2; cases hcd2
          | ok yy e6 =>
            rw [q5] at hcd2
            have hcd3 : ((compD vs f tt te (ds.drop (i + 1)) (wipeE e6 vs)).bind fun ys e4 => .ok (yy :: ys) e4) = Res.ok rest ez := hcd2
            refine ⟨grB S H' F3 e2.length ad2, F5, e5, ad5, sr5, ?_⟩
            rw [q5]
            intro H6 F6 ad6 le6 sr6 v rv
            obtain ⟨a1, a2, a3⟩ := sr3.aside sr6 hacc3 notb_lst nf3 na
            rcases compD_ok (vs := vs) (f := f) (tt := tt) (te := te) (ds := ds.drop (i + 1)) (env := wipeE e6 vs) with ⟨zs, ew, hz⟩ | hz
            · rw [hz] at hcd3
              have e9 : Res.ok (yy :: zs) ew = Res.ok rest ez := hcd3
              cases e9
              have hdl2 : (done ++ [yy]).length ≤ ds.length := by
                have e10 : ys.length = done.length + (zs.length + 1) := by rw [ey]; simp
                simp
                omega
              refine ⟨acc, a1, ?_, fin σ' H6 F6 e6 ad6 (acc ++ [v]) (done ++ [yy]) zs but sr6 (by rw [ey]; simp) hz ((racc.mono (le3.trans sr6.le0)).append (.one rv)) hdl2⟩
              have e11 := racc.length
              simp at hdl2
              rw [sizeLine_eq]
              omega
            · rw [hz] at hcd3
              cases hcd3
        | false =>
          rw [if_neg Bool.false_ne_true] at hcd2 ⊢
          obtain ⟨a1, a2, a3⟩ := sr3.aside sr5 hacc3 notb_lst nf3 na
          have z := fin σ' H5 F5 e5 ad5 acc done rest but sr5 ey hcd2 (racc.mono (le3.trans sr5.le0)) hdl
          have eu : upd H5 b (.lst acc) = H5 := by
            funext c
            by_cases hc2 : c = b
            · rw [hc2, upd_same, a1]
            · rw [upd_ne hc2]
          rw [eu] at z
          exact z
  · have e0 : i = ds.length := by omega
    subst e0
    rw [List.drop_length] at hcd
    cases hcd
    subst ee
    rw [List.append_nil] at ey
    subst ey
    have su := sr1.unwipe (vs := vs) (e := wipeE e3 vs) (ad1 := ad2) le2 (by
      have e12 : wipeE (wipeE e3 vs) vs = wipeE e3 vs := by
        apply List.ext_getElem?
        intro k
        by_cases hk : k ∈ vs
        · have key : ∀ (ee : Env), (wipeE ee vs)[k]? = if k < ee.length then some .emp else none := fun ee => by
            by_cases hl : k < ee.length
            · rw [if_pos hl]
              have := wipeE_in (e := ee) hk (List.getElem?_eq_getElem (by rw [wipeE_length]; exact hl))
              rw [List.getElem?_eq_getElem (by rw [wipeE_length]; exact hl), this]
            · rw [if_neg hl]
              exact List.getElem?_eq_none (by rw [wipeE_length]; omega)
          rw [key, key, wipeE_length]
        · rw [wipeE_out hk]
      rw [e12]
      exact sr2)
    have e12 : back1 e1 (wipeE (wipeE e3 vs) vs) vs = back1 e1 (wipeE (wipeE e3 vs) vs) vs := rfl
    refine .inl ⟨(hJ H (le2.trans sr2.sub) ds.length).2 rfl, q1 H F2 ad2 le2 su b [b] ⟨rfl, acc, hacc, racc⟩ fun a ha => ?_⟩
    rcases List.mem_cons.mp ha with z | z
    · subst z
      exact ⟨nf, n0, na⟩
    · cases z
theorem do_lc (hc : X.calm = true) (hN : X.N.Nodup) (hi : PI X tg iter (tI S W mi)) (ok : BlkOk X.N X.env.scope scope own)
    (hg : ∀ (s : Shared) (H : Hp) (C : Addr) (cl : List (Str × Addr)) (fp : List Addr) (G : Gr S), PG (X.blk s H scope (compEnvC scope cl C X.env) fp) tg (tG G.1 js f))
    (ht : ∀ (s : Shared) (H : Hp) (C : Addr) (cl : List (Str × Addr)) (fp : List Addr) (G : Gr S), PTs (X.blk s H scope (compEnvC scope cl C X.env) fp) ifs (tT G.1 W0 tt))
    (he : ∀ (s : Shared) (H : Hp) (C : Addr) (cl : List (Str × Addr)) (fp : List Addr) (G : Gr S), PE (X.blk s H scope (compEnvC scope cl C X.env) fp) elt (tD G.1 W0 te))
    (hj : ∀ j ∈ js, j ∈ own.map (·.2) := by decide) (hs : ∀ x, foldedSetIterable iter X.env x = pure x := by intro _; rfl) : PE X (.ListComp elt [⟨tg, iter, ifs, 0⟩] scope pos) (tO S W (oLc (own.map (·.2)) mi f tt te)) :=
  PE.imp (pe_lc hc hN hi ok (fun s H C cl fp => PG.all (hg s H C cl fp)) (fun s H C cl fp => PTs.all (ht s H C cl fp)) (fun s H C cl fp => PE.all (he s H C cl fp)) hs) fun σ H Q h => t_lc hj h
theorem t_own {m : M Own} {i : Nat} {d : Ends} {σ : L2.St} {H : Hp} (h : tS S W (sOwn m i) d σ H) : tO S W m σ H fun x H1 => gName i x σ H1 d.nx := by
  obtain ⟨F, env, ad, sr, p⟩ := h
  refine ⟨F, env, ad, sr, (Post.fl p).imp fun o e1 H1 F1 ad1 le1 sr1 q b fp oa hf => ?_⟩
  by_cases hl : i < e1.length
  · exact q _ H1 F1 _ (Le.refl F1) (sr1.put i (some (.ref b)) (.own o) fp rfl (fun _ => ⟨b, rfl, oa⟩) (fun z => absurd hl (by omega)) (fun j a _ ha => (hf a ha).2.2 j) fun a ha => ⟨(hf a ha).1, .inl (hf a ha).2.1⟩)
  · have e0 : e1.set i (.own o) = e1 := List.set_eq_of_length_le (by omega)
    have e2 : σ.set i (some (.ref b)) = σ := List.set_eq_of_length_le (by have := sr1.len; omega)
    rw [e0] at q
    show d.nx (σ.set i (some (V.ref b))) H1
    rw [e2]
    exact q σ H1 F1 ad1 (Le.refl F1) sr1
theorem ds_setLc {i : Nat} {y : Str} {py spos : Pos} (hc : X.calm = true) (hN : X.N.Nodup) (hy : X.N[i]? = some y) (hyl : X.env.scope.names.lookup y = some .local) (hsw : swapsWith (.ListComp elt [⟨tg, iter, ifs, 0⟩] scope pos) (some (.Name y py)) spos.line X.env = pure true)
    (hi : PI X tg iter (tI S W mi)) (ok : BlkOk X.N X.env.scope scope own)
    (hg : ∀ (s : Shared) (H : Hp) (C : Addr) (cl : List (Str × Addr)) (fp : List Addr) (G : Gr S), PG (X.blk s H scope (compEnvC scope cl C X.env) fp) tg (tG G.1 js f))
    (ht : ∀ (s : Shared) (H : Hp) (C : Addr) (cl : List (Str × Addr)) (fp : List Addr) (G : Gr S), PTs (X.blk s H scope (compEnvC scope cl C X.env) fp) ifs (tT G.1 W0 tt))
    (he : ∀ (s : Shared) (H : Hp) (C : Addr) (cl : List (Str × Addr)) (fp : List Addr) (G : Gr S), PE (X.blk s H scope (compEnvC scope cl C X.env) fp) elt (tD G.1 W0 te))
    (hj : ∀ j ∈ js, j ∈ own.map (·.2) := by decide) (hs : ∀ x, foldedSetIterable iter X.env x = pure x := by intro _; rfl) : PS X (.Assign [.Name y py] (.ListComp elt [⟨tg, iter, ifs, 0⟩] scope pos) spos) (tS S W (sOwn (oLc (own.map (·.2)) mi f tt te) i)) :=
  PS.imp (ps_setLc hc hN hy hyl hsw hi ok (fun s H C cl fp => PG.all (hg s H C cl fp)) (fun s H C cl fp => PTs.all (ht s H C cl fp)) (fun s H C cl fp => PE.all (he s H C cl fp)) hs) fun d σ H h => t_lc hj (t_own h)
end
end DL
set_option Elab.async false
set_option linter.all false
set_option maxRecDepth 100000
set_option maxHeartbeats 2000000
namespace DL
open PySem PySem.Spec PyProof.Rows L2
structure Xc (T : Tb) (mg : Str → Option Value) (c : Str) : Prop where
  ex : ∃ C, T.exc c = some C ∧ mg c = some (.ref C) ∧ PySem.W.excIn T.K C He.veBase "ValueError.__new__" = true ∧ PySem.W.keepIn T.K (.ref C) = true ∧ PySem.W.subIn T.K (.ref C) (.type "BaseException") = some true ∧ PySem.W.typeIn T.K (.ref C) = some (.type "type")
section
variable {X : Cx} {S : Gd} {W : WX} {e a b o : Expr} {es : List Expr} {pos p p2 apos cpos : Pos} {m mk : M D} {l : M (List D)} {i : Nat}
def sRaise (c : Str) : Env → Fl := fun env => .exc c env
theorem ds_raise {c z : Str} {j : Nat} {p3 : Pos} (xc : Xc S.T X.mg c) (hc : X.calm = true) (tk : L2N.Takes X W) (hK : X.K = S.T.K := by rfl) (hg : Gl X c := by rfl) (hdb : (c == ("__debug__" : Str)) = false := by decide) :
    PS X (.Raise (some (.Call (.Name c p) [.Constant (.str z) j p2] [] p3)) none pos) (tS S W (sRaise c)) := by
  obtain ⟨C, h1, h2, h3, h4, h5, h6⟩ := xc.ex
  rw [← hK] at h3 h4 h5 h6
  exact PS.imp (L2N.ps_raise hc tk (L2N.pmk_own PySem.F.excBase_ValueError h3 h2 h4 (raises_own h5 h6) hg hdb)) fun d σ H ⟨F, env, ad, sr, q⟩ => q C σ H F ad h1 (Le.refl F) sr
def appO (d : D) : Own → Option Own
  | .ol xs => if xs.length < 1000000 then some (.ol (xs ++ [d])) else none
  | _ => none
def isOl : Slot → Bool
  | .own (.ol _) | .lent (.ol _) => true
  | _ => false
def modS (env : Env) (i : Nat) (f : Own → Option Own) : Option Env := (env[i]?).bind fun s => s.ow.bind fun o => (f o).map fun o' => env.set i (s.re o')
def eApp (i : Nat) (m : M D) : M D := fun env => match env[i]? with
  | some s => if isOl s = true then (m env).bind fun d e => (lift (modS e i (appO d)) e).bind fun e2 _ => .ok .non e2 else .bad
  | none => .bad
theorem isOl_at {T : Tb} {F H : Hp} {x : Option (Option V)} {s : DL.Slot} {fp : List Addr} (h : isOl s = true) (q : SlotAt T F H x s fp) : ∃ p vs, x = some (some (.ref p)) ∧ H p = some (.lst vs) := by
  cases s with
  | emp => cases h
  | dat _ => cases h
  | own o =>
    cases o with
    | ol xs => obtain ⟨p, e, _, vs, h1, _⟩ := q; exact ⟨p, vs, e, h1⟩
    | od _ => cases h
    | oz => cases h
    | oll _ => cases h
    | ot _ _ => cases h
    | oi _ _ => cases h
  | lent o =>
    cases o with
    | ol xs => obtain ⟨p, e, _, vs, h1, _⟩ := q; exact ⟨p, vs, e, h1⟩
    | od _ => cases h
    | oz => cases h
    | oll _ => cases h
    | ot _ _ => cases h
    | oi _ _ => cases h
theorem size1m {n : Nat} (h : n < 1000000) : n < sizeLine := by rw [sizeLine_eq]; omega
theorem de_app (ho : PE X o (tVar i)) (he : PE X e (tD S W m)) (hK : X.K = S.T.K := by rfl) (hbase : attributeBase o "append" X.env (eval o X.env) = eval o X.env := by rfl)
    (hs : starEach [e] X.env = (false, eval e X.env) :: starEach [] X.env := by rfl)
    (hfew : ((backTo cpos (starEach [e] X.env)).all (fun x => !x.1) && (backToKw cpos (keywordEach [] X.env)).all (fun x => x.1.isSome)
      && decide ([e].length + ([] : List Keyword).length + (if ([] : List Keyword).isEmpty then 0 else 1) < 30)) = true := by rfl)
    (hline : (apos.endLine == cpos.line) = true := by rfl) (hplain : (backTo cpos (starEach [] X.env)).any (·.1) = false := by rfl) :
    PE X (.Call (.Attribute o "append" apos) [e] [] cpos) (tD S W (eApp i m)) :=
  PE.imp (pe_bm PySem.F.plainAttrs_list PySem.F.slot_list_append PySem.F.type_list_append mt_append ho (pa_cons he pa_nil hs) hbase hfew hline hs hplain) fun σ H Q ⟨F, env, ad, sr, p⟩ => by
    unfold eApp at p
    cases q : env[i]? with
    | none => rw [q] at p; exact p.elim
    | some s =>
      rw [q] at p
      simp only at p
      by_cases hO : isOl s = true
      case neg => rw [if_neg hO] at p; exact p.elim
      rw [if_pos hO] at p
      obtain ⟨b, vs, e1, h1⟩ := isOl_at hO (sr.at_ i _ q)
      refine ⟨_, e1, .inl ⟨rfl, vs, .of h1⟩, F, env, ad, sr, p.bind.imp fun d e2 H1 F1 ad1 le1 sr1 q1 v r => ?_⟩
      obtain ⟨e3, q2, q3⟩ := Post.lift (Post.bind q1.2)
      unfold modS at q2
      obtain ⟨s1, x1, x2⟩ := Option.bind_eq_some_iff.mp q2
      obtain ⟨o1, x3, x4⟩ := Option.bind_eq_some_iff.mp x2
      obtain ⟨o2, x5, x6⟩ := Option.map_eq_some_iff.mp x4
      obtain ⟨b', y1, y2⟩ := SlotAt.ow (sr1.at_ i _ x1) x3
      rw [e1] at y1
      cases y1
      cases o1 with
      | ol xs =>
        have x7 : (if xs.length < 1000000 then some (Own.ol (xs ++ [d])) else none) = some o2 := x5
        split at x7
        · rename_i hl
          cases x7
          obtain ⟨z1, ws, z2, z3⟩ := y2
          refine ⟨_, ws, v, rfl, rfl, z2, by rw [z3.length]; exact size1m hl, ?_⟩
          have sr2 : SR S σ (upd H1 b (.lst (ws ++ [v]))) F1 (e2.set i (s1.re (.ol (xs ++ [d])))) ad1 := by
            refine sr1.mut x1 e1 (fun a ha => upd_ne fun z => ha (by rw [z1, z]; exact List.mem_cons_self ..)) (fun a ha => ?_) ⟨z1, _, upd_same, z3.append (.one r)⟩
            by_cases z : a = b
            · rw [z, upd_same] at ha; cases ha
            · rw [upd_ne z] at ha; exact ha
          have q4 := q3 H1 F1 ad1 (Le.refl F1) sr1
          rw [← x6] at q4
          exact q4.2 _ F1 ad1 (Le.refl F1) sr2 _ .non
        · cases x7
      | od _ => cases x5
      | oz => cases x5
      | oll _ => cases x5
      | ot _ _ => cases x5
      | oi _ _ => cases x5
def setO (k : Int) (d : D) : Own → Option Own
  | .ol xs => (ixN xs.length k).map fun j => .ol (xs.set j d)
  | _ => none
def sSetI (i : Nat) (mk m : M D) : Env → Fl := fun env => (m env).fl fun d e1 => match e1[i]? with
  | some s => if isOl s = true then (mk e1).fl fun kk e2 => (match kk with
    | .int k => (match modS e2 i (setO k d) with
      | some e3 => .nx e3
      | none => .bad)
    | _ => .bad) else .bad
  | none => .bad
theorem ds_seti {pos' : Pos} (ho : PE X o (tVar i)) (hk : PE X a (tD S W mk)) (he : PE X e (tD S W m)) (hs : swapsWithSole [.Subscript o a pos'] e pos.line X.env = pure false := by rfl) (hw : swappedStores [.Subscript o a pos'] e X.env = pure none := by rfl)
    (h1 : (assignEach [.Subscript o a pos'] X.env).map (·.2) = [assign (.Subscript o a pos') X.env] := by rfl)
    (ha : ∀ v, assign (.Subscript o a pos') X.env v = (do
      let ov ← holding [v] (eval o X.env)
      let iv ← holding [v, ov] (eval a X.env)
      standAt pos'
      holding [v, ov, iv] (setItem ov iv v)
      release [v, ov, iv] []) := by intro _; rfl) : PS X (.Assign [.Subscript o a pos'] e pos) (tS S W (sSetI i mk m)) :=
  PS.imp (ps_asg he (pg_sub ho hk set_list ha) hs hw h1) fun d σ H ⟨F, env, ad, sr, p⟩ => ⟨F, env, ad, sr, (Post.fl p).imp fun x e1 H1 F1 ad1 le1 sr1 q v r => by
    cases q0 : e1[i]? with
    | none => rw [q0] at q; exact q.elim
    | some s =>
      rw [q0] at q
      simp only at q
      by_cases hO : isOl s = true
      case neg => rw [if_neg hO] at q; exact q.elim
      rw [if_pos hO] at q
      obtain ⟨b, vs, y0, _⟩ := isOl_at hO (sr1.at_ i _ q0)
      refine ⟨_, y0, F1, e1, ad1, sr1, (Post.fl q).imp fun kk e2 H2 F2 ad2 le2 sr2 q2 u ru => ?_⟩
      cases ru with
      | int k =>
        simp only at q2
        cases q3 : modS e2 i (setO k x) with
        | none => rw [q3] at q2; exact q2.elim
        | some e3 =>
          rw [q3] at q2
          unfold modS at q3
          obtain ⟨s1, x1, x2⟩ := Option.bind_eq_some_iff.mp q3
          obtain ⟨o1, x3, x4⟩ := Option.bind_eq_some_iff.mp x2
          obtain ⟨o2, x5, x6⟩ := Option.map_eq_some_iff.mp x4
          obtain ⟨b', y1, y2⟩ := SlotAt.ow (sr2.at_ i _ x1) x3
          rw [y0] at y1
          cases y1
          cases o1 with
          | ol xs =>
            obtain ⟨j, x7, x8⟩ := Option.map_eq_some_iff.mp (show (ixN xs.length k).map (fun j => Own.ol (xs.set j x)) = some o2 from x5)
            obtain ⟨z1, ws, z2, z3⟩ := y2
            refine ⟨_, ws, k, j, rfl, rfl, z2, by rw [z3.length]; exact x7, ?_⟩
            have sr3 : SR S σ (upd H2 b (.lst (ws.set j v))) F2 (e2.set i (s1.re (.ol (xs.set j x)))) ad2 := by
              refine sr2.mut x1 y0 (fun a ha => upd_ne fun z => ha (by rw [z1, z]; exact List.mem_cons_self ..)) (fun a ha => ?_) ⟨z1, _, upd_same, RpAll.set (r.mono le2) j z3⟩
              by_cases z : a = b
              · rw [z, upd_same] at ha; cases ha
              · rw [upd_ne z] at ha; exact ha
            rw [x8, x6] at sr3
            exact q2 σ _ F2 ad2 (Le.refl F2) sr3
          | od _ => cases x5
          | oz => cases x5
          | oll _ => cases x5
          | ot _ _ => cases x5
          | oi _ _ => cases x5
      | non => exact q2.elim
      | bl _ => exact q2.elim
      | str _ => exact q2.elim
      | lst _ _ => exact q2.elim
      | tup _ _ => exact q2.elim
      | ins _ _ _ _ => exact q2.elim
      | scr _ => exact q2.elim
      | exc _ _ => exact q2.elim
      | dct _ _ _ _ => exact q2.elim
      | wd _ => exact q2.elim
      | raw _ => exact q2.elim⟩
def valD (kvs : List (Int × D)) (k : Int) : Option D := (kvs.find? fun q => decide (q.1 = k)).map (·.2)
def putD (kvs : List (Int × D)) (k : Int) (d : D) : List (Int × D) := if (kvs.any fun q => decide (q.1 = k)) = true then kvs.map (fun q => if q.1 = k then (q.1, d) else q) else kvs ++ [(k, d)]
end
section
variable {X : Cx} {T : Tb} {H0 F0 : Hp} {OA : List Addr} {V0 : L2.St} {E : XK} {e : Expr} {es : List Expr} {pos p : Pos} {i n k : Nat} {φ : Fn} {c : Str} {l : M AL}
def mkR (c : Str) : FRes → Env → Res Own
  | .rt .non (.lent (.oi c' fs) :: _), e => if c' = c then .ok (.oi c fs) e else .bad
  | .exc x _, e => .exc x e
  | _, _ => .bad
def oMake (c : Str) (n : Nat) (φ : Fn) (l : M AL) : M Own := fun env => (l env).bind fun as e => if as.length + 1 = n ∧ as.all Option.isSome = true then (match slotsX none as with
  | some ss => mkR c (φ (.lent (.oi c []) :: ss)) e
  | none => .bad) else .bad
theorem do_make (C : CalC X.prog X.w T X.mg X.base k c n φ) (hr : Room (k + 1) X.A) (tk : L2N.Takes X (wOf E)) (ha : PA X (e :: es) (tX ⟨T, H0, F0, OA, V0⟩ (wOf E) i l)) (hK : X.K = T.K := by rfl) (hg : Gl X c := by rfl) (hdb : (c == ("__debug__" : Str)) = false := by decide)
    (he : starEach (e :: es) X.env = (false, eval e X.env) :: starEach es X.env := by exact star_ok _ _ _ rfl) (hpl : (backTo pos (starEach es X.env)).any (·.1) = false := by rfl) : PE X (.Call (.Name c p) (e :: es) [] pos) (tO ⟨T, H0, F0, OA, V0⟩ (wOf E) (oMake c n φ l)) := by
  obtain ⟨A, f, fd, ps, h0, h1, h2, h3, h4⟩ := C.ex
  rw [← hK] at h2 h3 h4
  refine PE.imp (pe_make h2 h3 hr hg h1 h4 .nil (L2N.passes_call tk fun _ _ _ _ z => z) ha hdb he hpl) fun σ H Q ⟨F, env, ad, sr, p⟩ => ⟨F, env, ad, sr, p.bind.imp fun as e1 H1 F1 ad1 le1 sr1 q vs ra => ?_⟩
  have q1 := q.2
  by_cases hn : as.length + 1 = n ∧ as.all Option.isSome = true
  case neg => rw [if_neg hn] at q1; exact q1.elim
  rw [if_pos hn] at q1
  intro x dx hx hdx ne
  rw [List.append_nil]
  cases q2 : slotsX none as with
  | none => rw [q2] at q1; exact q1.elim
  | some ss =>
    rw [q2] at q1
    simp only at q1
    obtain ⟨g1, g2, g3⟩ := slotsX_get q2
    have hlv := ra.length
    -- the heap with the new instance
    have sr2 : SR ⟨T, H0, F0, OA, V0⟩ σ (upd (upd H1 dx (.own x)) x (.ins A dx [])) F1 e1 ad1 := (sr1.more (o := .own x) hdx).more (o := .ins A dx []) (by rw [upd_ne fun z => ne z.symm]; exact hx)
    have hdx2 : (upd (upd H1 dx (.own x)) x (.ins A dx [])) dx = some (.own x) := by rw [upd_ne ne, upd_same]
    let adc : Nat → List Addr := fun j => if j = 0 then [x, dx] else []
    have hfr : ∀ a ∈ [x, dx], F1 a = none ∧ H0 a = none ∧ ∀ j, a ∉ ad1 j := fun a ha => by
      rcases List.mem_cons.mp ha with z | z
      · subst z
        exact ⟨sr1.fnone hx, sr1.dom a hx, fun j hj => sr1.somes hj hx⟩
      · rcases List.mem_cons.mp z with z | z
        · subst z
          exact ⟨sr1.fnone hdx, sr1.dom a hdx, fun j hj => sr1.somes hj hdx⟩
        · cases z
    have sc : SR (gd T (upd (upd H1 dx (.own x)) x (.ins A dx [])) F1 [x, dx] (.ref x :: vs)) ((V.ref x :: vs).map some) (upd (upd H1 dx (.own x)) x (.ins A dx [])) F1 (.lent (.oi c []) :: ss) adc := by
      refine sr2.enter (by simp [g1, hlv]) (fun j s ej => ?_) (fun j hj => ?_) (fun a b d hd hb => ?_) (fun j a ha => ?_)
      · cases j with
        | zero =>
          simp at ej
          subst ej
          exact ⟨x, rfl, A, dx, [], [], h0, rfl, upd_same, hdx2, rfl, List.nodup_nil⟩
        | succ j =>
          simp at ej
          show SlotAt T F1 _ _ s []
          rcases g2 j s ej with ⟨d, y1, y2⟩ | ⟨y, y1, y2, y3⟩
          · subst y2
            obtain ⟨v, v1, v2⟩ := ra.get y1
            refine ⟨rfl, v, ?_, v2⟩
            rw [List.map_cons, List.getElem?_cons_succ, List.getElem?_map, v1]
            rfl
          · cases y2
      · have hj2 : j ≠ 0 := fun z => by rw [z] at hj; simp at hj
        exact if_neg hj2
      · have h5 : a = 0 := Decidable.byContradiction fun z => by rw [show adc a = [] from if_neg z] at hd; cases hd
        have h6 : b = 0 := Decidable.byContradiction fun z => by rw [show adc b = [] from if_neg z] at hb; cases hb
        rw [h5, h6]
      · have h5 : j = 0 := Decidable.byContradiction fun z => by rw [show adc j = [] from if_neg z] at ha; cases ha
        subst h5
        exact ⟨(hfr a ha).1, ha⟩
    refine ⟨F1, _, adc, [x, dx], by simp; omega, sc, by rw [List.all_cons, slotsX_handed q2]; rfl, ?_⟩
    have hOA : ∀ a ∈ [x, dx], (∀ j, j ≠ e1.length → a ∉ ad1 j) ∧ F1 a = none ∧ (H0 a = none ∨ a ∈ OA) := fun a ha => ⟨fun j _ => (hfr a ha).2.2 j, (hfr a ha).1, .inl (hfr a ha).2.1⟩
    have bk : ∀ {τ : L2.St} {H' F' : Hp} {ss' : Env} {ad' : Nat → List Addr}, SR (gd T (upd (upd H1 dx (.own x)) x (.ins A dx [])) F1 [x, dx] (.ref x :: vs)) τ H' F' ss' ad' → SR ⟨T, H0, F0, OA, V0⟩ σ H' F' e1 (setA ad1 e1.length []) := fun {τ H' F' ss' ad'} c => by
      have lv := sr2.leave c e1.length hOA
      rwa [List.set_eq_of_length_le (Nat.le_refl _)] at lv
    cases q3 : φ (.lent (.oi c []) :: ss) with
    | bad => rw [q3] at q1; exact q1.elim
    | exc cc as' =>
      rw [q3] at q1
      intro CC H' F' ad' hc le sc'
      exact q1 CC H' F' _ hc le (bk sc')
    | rt d as' =>
      rw [q3] at q1
      intro v H' F' ad' le sc' rv
      unfold mkR at q1
      split at q1
      · rename_i fs r4 e9
        cases e9
        split at q1
        · rename_i hcc
          subst hcc
          cases rv
          refine ⟨rfl, ?_⟩
          obtain ⟨b, w1, w2⟩ := sc'.at_ 0 _ rfl
          have eb : b = x := by
            have w3 : some (some (V.ref x)) = some (some (V.ref b)) := w1
            cases w3
            rfl
          subst eb
          refine q1 H' F' _ le (bk sc') b (ad' 0) w2 fun a ha => ?_
          have hm := sc'.mine 0 a ha
          have hd : H0 a = none ∧ ∀ j, a ∉ ad1 j := by
            rcases hm.2 with z | z
            · have z1 : (upd (upd H1 dx (.own b)) b (.ins A dx [])) a = none := z
              exact ⟨sr2.dom a z1, fun j hj => sr2.somes hj z1⟩
            · exact (hfr a z).2
          refine ⟨hm.1, hd.1, fun j hj => ?_⟩
          unfold setA at hj
          split at hj
          · cases hj
          · exact hd.2 j hj
        · exact q1.elim
      · rename_i e9
        cases e9
      · exact q1.elim
end
end DL
set_option Elab.async false
set_option linter.all false
set_option maxRecDepth 100000
set_option maxHeartbeats 2000000
namespace DL
open PySem PySem.Spec PyProof.Rows L2
def putFS (f : Str) (x : FS) : List (Str × FS) → List (Str × FS)
  | [] => [(f, x)]
  | (y, z) :: r => if y = f then (f, x) :: r else (y, z) :: putFS f x r
theorem putF_cons (f y : Str) (v z : V) (r : List (Str × V)) : putF f v ((y, z) :: r) = if y = f then (f, v) :: r else (y, z) :: putF f v r := by
  show (if _ then _ else _) = _
  by_cases h : y = f
  · subst h
    simp
  · simp [h, putF]
section
variable {T : Tb} {F H H' : Hp}
theorem FldAt.tail_ex {us : List (Str × V)} {fs : List (Str × FS)} {qs : List Addr} {x y : Str} {v : V} {z : FS} (h : FldAt T F H ((x, v) :: us) ((y, z) :: fs) qs) (nd : qs.Nodup) : x = y ∧ ∃ qs', FldAt T F H us fs qs' ∧ (∀ a ∈ qs', a ∈ qs) ∧ qs'.Nodup := by
  cases z with
  | d d =>
    obtain ⟨h1, h2, h3⟩ := h
    exact ⟨h1, qs, h3, fun _ z => z, nd⟩
  | l ds =>
    obtain ⟨h1, q, qs', vs, rfl, h2, h3, h4, h5⟩ := h
    exact ⟨h1, qs', h5, fun a z => List.mem_cons_of_mem _ z, (List.nodup_cons.mp nd).2⟩
  | t ks xs =>
    obtain ⟨h1, q, qs', rfl, h2, h3, h5⟩ := h
    exact ⟨h1, qs', h5, fun a z => List.mem_cons_of_mem _ z, (List.nodup_cons.mp nd).2⟩
theorem fldAt_lst : ∀ {us : List (Str × V)} {fs : List (Str × FS)} {qs : List Addr} {a : Addr}, FldAt T F H us fs qs → a ∈ qs → ∃ u, H a = some u ∧ ((∃ vs, u = .lst vs) ∨ ∃ w a es ep, u = DctO w a es ep)
  | [], [], _, _, h, ha => by
    have e : _ = [] := h
    rw [e] at ha
    cases ha
  | [], _ :: _, _, _, h, _ => h.elim
  | _ :: _, [], _, _, h, _ => h.elim
  | (x, v) :: r, (y, .d d) :: s, qs, a, h, ha => fldAt_lst h.2.2 ha
  | (x, v) :: r, (y, .l ds) :: s, qs, a, h, ha => by
    obtain ⟨h1, q, qs', vs, rfl, h2, h3, h4, h5⟩ := h
    rcases List.mem_cons.mp ha with z | z
    · rw [z]
      exact ⟨_, h3, .inl ⟨_, rfl⟩⟩
    · exact fldAt_lst h5 z
  | (x, v) :: r, (y, .t ks xs) :: s, qs, a, h, ha => by
    obtain ⟨h1, q, qs', rfl, h2, ⟨es, ep, h3, _⟩, h5⟩ := h
    rcases List.mem_cons.mp ha with z | z
    · rw [z]
      exact ⟨_, h3, .inr ⟨_, _, _, _, rfl⟩⟩
    · exact fldAt_lst h5 z
theorem fldAt_l {f : Str} {ds : List D} : ∀ {us : List (Str × V)} {fs : List (Str × FS)} {qs : List Addr}, FldAt T F H us fs qs → fs.lookup f = some (.l ds) → ∃ q vs, us.lookup f = some (.ref q) ∧ q ∈ qs ∧ H q = some (.lst vs) ∧ RpAll T F vs ds
  | [], [], _, _, e => by simp at e
  | [], _ :: _, _, h, _ => h.elim
  | _ :: _, [], _, h, _ => h.elim
  | (x, v) :: r, (y, .d d') :: s, qs, h, e => by
    obtain ⟨rfl, h2, h3⟩ := h
    rw [List.lookup_cons] at e ⊢
    cases q : (f == x) with
    | true => rw [q] at e; cases e
    | false =>
      rw [q] at e
      exact fldAt_l h3 e
  | (x, v) :: r, (y, .l ds') :: s, qs, h, e => by
    obtain ⟨rfl, q, qs', vs, rfl, h2, h3, h4, h5⟩ := h
    rw [List.lookup_cons] at e ⊢
    cases qq : (f == x) with
    | true =>
      rw [qq] at e
      cases e
      exact ⟨q, vs, by rw [h2], List.mem_cons_self .., h3, h4⟩
    | false =>
      rw [qq] at e
      obtain ⟨q2, vs2, k1, k2, k3, k4⟩ := fldAt_l h5 e
      exact ⟨q2, vs2, k1, List.mem_cons_of_mem _ k2, k3, k4⟩
  | (x, v) :: r, (y, .t ks xs) :: s, qs, h, e => by
    obtain ⟨rfl, q, qs', rfl, h2, h3, h5⟩ := h
    rw [List.lookup_cons] at e ⊢
    cases qq : (f == x) with
    | true => rw [qq] at e; cases e
    | false =>
      rw [qq] at e
      obtain ⟨q2, vs2, k1, k2, k3, k4⟩ := fldAt_l h5 e
      exact ⟨q2, vs2, k1, List.mem_cons_of_mem _ k2, k3, k4⟩
theorem fldAt_set {f : Str} {ds es : List D} {q : Addr} {ws : List V} (r : RpAll T F ws es) : ∀ {us : List (Str × V)} {fs : List (Str × FS)} {qs : List Addr}, qs.Nodup → FldAt T F H us fs qs → fs.lookup f = some (.l ds) → us.lookup f = some (.ref q) → q ∈ qs → FldAt T F (upd H q (.lst ws)) us (putFS f (.l es) fs) qs
  | [], [], _, _, _, e, _, _ => by simp at e
  | [], _ :: _, _, _, h, _, _, _ => h.elim
  | _ :: _, [], _, _, h, _, _, _ => h.elim
  | (x, v) :: us, (y, .d d') :: fs, qs, nd, h, e, e2, hq => by
    obtain ⟨rfl, h2, h3⟩ := h
    rw [List.lookup_cons] at e e2
    cases qq : (f == x) with
    | true => rw [qq] at e; cases e
    | false =>
      rw [qq] at e e2
      have ne : ¬ x = f := fun z => by rw [z] at qq; simp at qq
      unfold putFS
      rw [if_neg ne]
      exact ⟨rfl, h2, fldAt_set r nd h3 e e2 hq⟩
  | (x, v) :: us, (y, .l ds') :: fs, qs, nd, h, e, e2, hq => by
    obtain ⟨rfl, q0, qs', vs, rfl, h2, h3, h4, h5⟩ := h
    rw [List.lookup_cons] at e e2
    obtain ⟨nd1, nd2⟩ := List.nodup_cons.mp nd
    cases qq : (f == x) with
    | true =>
      rw [qq] at e e2
      have ef : x = f := by simpa using (eq_of_beq qq).symm
      cases e
      have e3 : some v = some (.ref q) := e2
      rw [h2] at e3
      cases e3
      unfold putFS
      rw [if_pos ef]
      exact ⟨ef, q, qs', ws, rfl, h2, upd_same, r, h5.mono (Le.refl F) fun a ha => upd_ne fun z => nd1 (z ▸ ha)⟩
    | false =>
      rw [qq] at e e2
      have ne : ¬ x = f := fun z => by rw [z] at qq; simp at qq
      unfold putFS
      rw [if_neg ne]
      -- q is the list of a later field
      obtain ⟨q2, vs2, k1, k2, k3, k4⟩ := fldAt_l h5 e
      have e4 : us.lookup f = some (.ref q) := e2
      rw [e4] at k1
      cases k1
      have nq : q0 ≠ q := fun z => nd1 (z ▸ k2)
      exact ⟨rfl, q0, qs', vs, rfl, h2, by rw [upd_ne nq]; exact h3, h4, fldAt_set r nd2 h5 e e2 k2⟩
  | (x, v) :: us, (y, .t ks xs) :: fs, qs, nd, h, e, e2, hq => by
    obtain ⟨rfl, q0, qs', rfl, h2, h3, h5⟩ := h
    rw [List.lookup_cons] at e e2
    obtain ⟨nd1, nd2⟩ := List.nodup_cons.mp nd
    cases qq : (f == x) with
    | true => rw [qq] at e; cases e
    | false =>
      rw [qq] at e e2
      have ne : ¬ x = f := fun z => by rw [z] at qq; simp at qq
      unfold putFS
      rw [if_neg ne]
      obtain ⟨q2, vs2, k1, k2, k3, k4⟩ := fldAt_l h5 e
      have e4 : us.lookup f = some (.ref q) := e2
      rw [e4] at k1
      cases k1
      have nq : q0 ≠ q := fun z => nd1 (z ▸ k2)
      exact ⟨rfl, q0, qs', rfl, h2, h3.mono (Le.refl F) (upd_ne nq), fldAt_set r nd2 h5 e e2 k2⟩
theorem FldAt.heap : ∀ {us : List (Str × V)} {fs : List (Str × FS)} {qs : List Addr}, (∀ a ∈ qs, H' a = H a) → FldAt T F H us fs qs → FldAt T F H' us fs qs := fun {us fs qs} k h => h.mono (Le.refl F) k
theorem FldAt.putD {f : Str} {v : V} {d : D} (r : Rp T F v d) : ∀ {us : List (Str × V)} {fs : List (Str × FS)} {qs : List Addr}, qs.Nodup → FldAt T F H us fs qs → ∃ qs', FldAt T F H (putF f v us) (putFS f (.d d) fs) qs' ∧ qs'.Nodup ∧ ∀ a ∈ qs', a ∈ qs
  | [], [], qs, _, h => ⟨[], ⟨rfl, r, rfl⟩, List.nodup_nil, fun a z => by cases z⟩
  | [], _ :: _, _, _, h => h.elim
  | _ :: _, [], _, _, h => h.elim
  | (x, w) :: us, (y, z) :: fs, qs, nd, h => by
    obtain ⟨h1, qs', h2, h3, h4⟩ := h.tail_ex nd
    subst h1
    rw [putF_cons]
    unfold putFS
    by_cases e : x = f
    · rw [if_pos e, if_pos e]
      exact ⟨qs', ⟨rfl, r, h2⟩, h4, h3⟩
    · rw [if_neg e, if_neg e]
      cases z with
      | d d' =>
        obtain ⟨_, k1, k2⟩ := h
        obtain ⟨qs2, k3, k5, k4⟩ := FldAt.putD (f := f) r nd k2
        exact ⟨qs2, ⟨rfl, k1, k3⟩, k5, k4⟩
      | l ds =>
        obtain ⟨_, q, qs1, vs, rfl, k1, k2, k3, k4⟩ := h
        obtain ⟨nd1, nd2⟩ := List.nodup_cons.mp nd
        obtain ⟨qs2, k5, k7, k6⟩ := FldAt.putD (f := f) r nd2 k4
        refine ⟨q :: qs2, ⟨rfl, q, qs2, vs, rfl, k1, k2, k3, k5⟩, List.nodup_cons.mpr ⟨fun z => nd1 (k6 q z), k7⟩, fun a ha => ?_⟩
        rcases List.mem_cons.mp ha with y | y
        · rw [y]; exact List.mem_cons_self ..
        · exact List.mem_cons_of_mem _ (k6 a y)
      | t ks xs =>
        obtain ⟨_, q, qs1, rfl, k1, k2, k4⟩ := h
        obtain ⟨nd1, nd2⟩ := List.nodup_cons.mp nd
        obtain ⟨qs2, k5, k7, k6⟩ := FldAt.putD (f := f) r nd2 k4
        refine ⟨q :: qs2, ⟨rfl, q, qs2, rfl, k1, k2, k5⟩, List.nodup_cons.mpr ⟨fun z => nd1 (k6 q z), k7⟩, fun a ha => ?_⟩
        rcases List.mem_cons.mp ha with y | y
        · rw [y]; exact List.mem_cons_self ..
        · exact List.mem_cons_of_mem _ (k6 a y)
theorem FldAt.putL {f : Str} {b : Addr} {ws : List V} {ds : List D} (hb : H b = some (.lst ws)) (r : RpAll T F ws ds) : ∀ {us : List (Str × V)} {fs : List (Str × FS)} {qs : List Addr}, qs.Nodup → b ∉ qs → FldAt T F H us fs qs → ∃ qs', FldAt T F H (putF f (.ref b) us) (putFS f (.l ds) fs) qs' ∧ qs'.Nodup ∧ ∀ a ∈ qs', a ∈ qs ∨ a = b
  | [], [], qs, _, _, h => ⟨[b], ⟨rfl, b, [], ws, rfl, rfl, hb, r, rfl⟩, by simp, fun a z => .inr (by simpa using z)⟩
  | [], _ :: _, _, _, _, h => h.elim
  | _ :: _, [], _, _, _, h => h.elim
  | (x, w) :: us, (y, z) :: fs, qs, nd, nb, h => by
    obtain ⟨h1, qs', h2, h3, h4⟩ := h.tail_ex nd
    subst h1
    rw [putF_cons]
    unfold putFS
    by_cases e : x = f
    · rw [if_pos e, if_pos e]
      refine ⟨b :: qs', ⟨rfl, b, qs', ws, rfl, rfl, hb, r, h2⟩, List.nodup_cons.mpr ⟨fun z => nb (h3 b z), h4⟩, fun a ha => ?_⟩
      rcases List.mem_cons.mp ha with y | y
      · exact .inr y
      · exact .inl (h3 a y)
    · rw [if_neg e, if_neg e]
      cases z with
      | d d' =>
        obtain ⟨_, k1, k2⟩ := h
        obtain ⟨qs2, k3, k5, k4⟩ := FldAt.putL (f := f) hb r nd nb k2
        exact ⟨qs2, ⟨rfl, k1, k3⟩, k5, k4⟩
      | l ds' =>
        obtain ⟨_, q, qs1, vs, rfl, k1, k2, k3, k4⟩ := h
        obtain ⟨nd1, nd2⟩ := List.nodup_cons.mp nd
        obtain ⟨qs2, k5, k7, k6⟩ := FldAt.putL (f := f) hb r nd2 (fun z => nb (List.mem_cons_of_mem _ z)) k4
        refine ⟨q :: qs2, ⟨rfl, q, qs2, vs, rfl, k1, k2, k3, k5⟩, List.nodup_cons.mpr ⟨fun z => ?_, k7⟩, fun a ha => ?_⟩
        · rcases k6 q z with y | y
          · exact nd1 y
          · exact nb (by rw [← y]; exact List.mem_cons_self ..)
        rcases List.mem_cons.mp ha with y | y
        · rw [y]; exact .inl (List.mem_cons_self ..)
        · rcases k6 a y with z | z
          · exact .inl (List.mem_cons_of_mem _ z)
          · exact .inr z
      | t ks' xs' =>
        obtain ⟨_, q, qs1, rfl, k1, k2, k4⟩ := h
        obtain ⟨nd1, nd2⟩ := List.nodup_cons.mp nd
        obtain ⟨qs2, k5, k7, k6⟩ := FldAt.putL (f := f) hb r nd2 (fun z => nb (List.mem_cons_of_mem _ z)) k4
        refine ⟨q :: qs2, ⟨rfl, q, qs2, rfl, k1, k2, k5⟩, List.nodup_cons.mpr ⟨fun z => ?_, k7⟩, fun a ha => ?_⟩
        · rcases k6 q z with y | y
          · exact nd1 y
          · exact nb (by rw [← y]; exact List.mem_cons_self ..)
        rcases List.mem_cons.mp ha with y | y
        · rw [y]; exact .inl (List.mem_cons_self ..)
        · rcases k6 a y with z | z
          · exact .inl (List.mem_cons_of_mem _ z)
          · exact .inr z
theorem FldAt.len : ∀ {us : List (Str × V)} {fs : List (Str × FS)} {qs : List Addr}, FldAt T F H us fs qs → us.length = fs.length
  | [], [], _, _ => rfl
  | [], _ :: _, _, h => h.elim
  | _ :: _, [], _, h => h.elim
  | (x, w) :: us, (y, z) :: fs, qs, h => by
    cases z with
    | d d' => simp [FldAt.len h.2.2]
    | l ds =>
      obtain ⟨_, q, qs1, vs, _, _, _, _, k4⟩ := h
      simp [FldAt.len k4]
    | t ks xs =>
      obtain ⟨_, q, qs1, _, _, _, k4⟩ := h
      simp [FldAt.len k4]
end
section
variable {S : Gd} {σ : L2.St} {H F : Hp} {env : Env} {ad : Nat → List Addr}
theorem SR.chg (h : SR S σ H F env ad) {i : Nat} {s : Slot} {o' : Own} {p : Addr} {H' : Hp} {fp : List Addr} (hs : env[i]? = some s) (hp : σ[i]? = some (some (.ref p))) (k : ∀ a, a ∉ ad i → H' a = H a) (hn : ∀ a, H' a = none → H a = none) (htb : ∀ a ps, H' a = some (.tbl ps) → H a = some (.tbl ps)) (new : OwnAt S.T F H' p o' fp)
    (hf : ∀ a ∈ fp, a ∈ ad i ∨ (F a = none ∧ S.H0 a = none ∧ ∀ j, a ∉ ad j)) : SR S σ H' F (env.set i (s.re o')) (setA ad i fp) := by
  have hlt : i < env.length := (List.getElem?_eq_some_iff.mp hs).1
  refine ⟨by rw [List.length_set, h.len], fun a u e => ?_, fun j t e => ?_, fun j hj => ?_, fun j l a ha hb => ?_, fun j a ha => ?_, fun a u na e nt => ?_, ⟨fun q hq => ?_, fun a ps e => h.tab.only a ps (htb a ps e)⟩, h.notb, h.old, h.le0, fun a e => h.dom a (hn a e), fun j o e => ?_⟩
  · rw [k a fun z => by rw [(h.mine i a z).1] at e; cases e]
    exact h.sub a u e
  · by_cases z : j = i
    · subst z
      rw [get_set_same e, setA_same]
      exact SlotAt.re hp new
    · rw [get_set_ne z] at e
      rw [setA_ne z]
      exact (h.at_ j t e).mono (Le.refl F) fun a ha => k a fun y => z (h.dis j i a ha y)
  · rw [List.length_set] at hj
    by_cases z : j = i
    · omega
    · rw [setA_ne z]
      exact h.out j hj
  · have key : ∀ j, j ≠ i → a ∈ fp → a ∉ ad j := fun j hj ha hb => by
      rcases hf a ha with z | z
      · exact hj (h.dis j i a hb z)
      · exact z.2.2 j hb
    by_cases z : j = i
    · by_cases y : l = i
      · rw [z, y]
      · rw [z, setA_same] at ha
        rw [setA_ne y] at hb
        exact absurd hb (key l y ha)
    · by_cases y : l = i
      · rw [setA_ne z] at ha
        rw [y, setA_same] at hb
        exact absurd ha (key j z hb)
      · rw [setA_ne z] at ha
        rw [setA_ne y] at hb
        exact h.dis j l a ha hb
  · by_cases z : j = i
    · rw [z, setA_same] at ha
      rcases hf a ha with y | y
      · exact h.mine i a y
      · exact ⟨y.1, .inl y.2.1⟩
    · rw [setA_ne z] at ha
      exact h.mine j a ha
  · have q := h.keep a u na e nt
    rw [k a fun z => ?_]
    · exact q
    · rcases (h.mine i a z).2 with y | y
      · rw [e] at y; cases y
      · exact na y
  · obtain ⟨ps, t1, t2, t3⟩ := h.tab.tabs q hq
    refine ⟨ps, ?_, t2, fun pos cv hc => ?_⟩
    · rw [k q.1 fun z => ?_]
      · exact t1
      · obtain ⟨u, e1, e2⟩ := h.kind z
        rw [t1] at e1
        cases e1
        exact e2.notbl
    · obtain ⟨c, e1, e2⟩ := t3 pos cv hc
      refine ⟨c, e1, ?_⟩
      rw [k c fun z => ?_]
      · exact e2
      · obtain ⟨u, f1, f2⟩ := h.kind z
        rw [e2] at f1
        cases f1
        exact f2.noext
  · by_cases z : j = i
    · subst z
      have e1 := get_set_same e
      cases s with
      | lent o2 => exact h.fix j o2 hs
      | _ => cases e1
    · rw [get_set_ne z] at e
      exact h.fix j o e
end
section
variable {X : Cx} {S : Gd} {W : WX} {e a o : Expr} {pos pos' apos cpos p : Pos} {m mk : M D} {mo : M Own} {i : Nat} {c f : Str} {fl : List Str}
def fldO (c f : Str) (x : FS) : Own → Option Own
  | .oi c' fs => if c' = c ∧ fs.length < 100 then some (.oi c (putFS f x fs)) else none
  | _ => none
def sFldD (c f : Str) (i : Nat) (m : M D) : Env → Fl := fun env => (m env).fl fun d e => match modS e i (fldO c f (.d d)) with
  | some e2 => .nx e2
  | none => .bad
theorem modS_ok {S : Gd} {σ : L2.St} {H F : Hp} {env e2 : Env} {ad : Nat → List Addr} {g : Own → Option Own} (sr : SR S σ H F env ad) (h : modS env i g = some e2) : ∃ s o o' p, env[i]? = some s ∧ s.ow = some o ∧ g o = some o' ∧ e2 = env.set i (s.re o') ∧ σ[i]? = some (some (.ref p)) ∧ OwnAt S.T F H p o (ad i) := by
  unfold modS at h
  obtain ⟨s1, x1, x2⟩ := Option.bind_eq_some_iff.mp h
  obtain ⟨o1, x3, x4⟩ := Option.bind_eq_some_iff.mp x2
  obtain ⟨o2, x5, x6⟩ := Option.map_eq_some_iff.mp x4
  obtain ⟨b', y1, y2⟩ := SlotAt.ow (sr.at_ i _ x1) x3
  exact ⟨s1, o1, o2, b', x1, x3, x5, x6.symm, y1, y2⟩
theorem ds_fld (kl : Kl S.T c fl) (hf : f ∈ fl) (ho : PE X o (tVar i)) (he : PE X e (tD S W m)) (hK : X.K = S.T.K := by rfl) (hs : swapsWith e (some (.Attribute o f pos')) pos.line X.env = pure false := by rfl) : PS X (.Assign [.Attribute o f pos'] e pos) (tS S W (sFldD c f i m)) :=
  PS.imp (ps_fld ho he hs) fun d σ H ⟨F, env, ad, sr, p⟩ => ⟨F, env, ad, sr, (Post.fl p).imp fun x e1 H1 F1 ad1 le1 sr1 q v r => by
    obtain ⟨C, k1, k2, k3⟩ := kl.ex
    rw [hK]
    cases q1 : modS e1 i (fldO c f (.d x)) with
    | none => rw [q1] at q; exact q.elim
    | some e2 =>
      rw [q1] at q
      obtain ⟨s, o1, o2, b, x1, x2, x3, x4, x5, x6⟩ := modS_ok sr1 q1
      cases o1 with
      | oi c' fs =>
        have x7 : (if c' = c ∧ fs.length < 100 then some (Own.oi c (putFS f (.d x) fs)) else none) = some o2 := x3
        split at x7
        · rename_i hc
          obtain ⟨hc1, hc2⟩ := hc
          subst hc1
          cases x7
          obtain ⟨C', dx, us, qs, y1, y2, y3, y4, y5, y6⟩ := x6
          rw [k1] at y1
          cases y1
          refine ⟨_, x5, b, C, dx, us, rfl, y3, k2, k3 f hf, by rw [y5.len]; omega, ?_⟩
          have ndx : dx ≠ b := fun z => by rw [z, y3] at y4; cases y4
          obtain ⟨qs', w1, w3, w2⟩ := y5.putD (f := f) r y6
          have sr3 := sr1.chg (fp := b :: dx :: qs') (H' := upd H1 b (.ins C dx (putF f v us))) (o' := .oi c' (putFS f (.d x) fs)) x1 x5 (fun a ha => upd_ne fun z => ha (by rw [y2, z]; exact List.mem_cons_self ..)) (fun a ha => by
            by_cases z : a = b
            · rw [z, upd_same] at ha; cases ha
            · rw [upd_ne z] at ha; exact ha) (fun a ps e => upd_tbl (fun _ z => by cases z) e) ⟨C, dx, _, qs', k1, rfl, upd_same, by rw [upd_ne ndx]; exact y4, w1.heap (fun a ha => upd_ne fun z => ?_), w3⟩ fun a ha => .inl ?_
          · rw [← x4] at sr3
            exact q σ _ F1 _ (Le.refl F1) sr3
          · have z1 : a ∈ qs := w2 a ha
            obtain ⟨u, z2, z3⟩ := fldAt_lst y5 z1
            rw [z, y3] at z2
            cases z2
            rcases z3 with ⟨_, z3⟩ | ⟨_, _, _, _, z3⟩ <;> cases z3
          · rw [y2]
            rcases List.mem_cons.mp ha with z | z
            · rw [z]; exact List.mem_cons_self ..
            · rcases List.mem_cons.mp z with z | z
              · rw [z]; exact List.mem_cons_of_mem _ (List.mem_cons_self ..)
              · exact List.mem_cons_of_mem _ (List.mem_cons_of_mem _ (w2 a z))
        · cases x7
      | ol _ => cases x3
      | od _ => cases x3
      | oz => cases x3
      | oll _ => cases x3
      | ot _ _ => cases x3⟩
def sFldO (c f : Str) (i : Nat) (m : M Own) : Env → Fl := fun env => (m env).fl fun o e => match o with
  | .ol xs => (match modS e i (fldO c f (.l xs)) with
    | some e2 => .nx e2
    | none => .bad)
  | _ => .bad
theorem ds_fldO (kl : Kl S.T c fl) (hf : f ∈ fl) (ho : PE X o (tVar i)) (he : PE X e (tO S W mo)) (hK : X.K = S.T.K := by rfl) (hs : swapsWith e (some (.Attribute o f pos')) pos.line X.env = pure false := by rfl) : PS X (.Assign [.Attribute o f pos'] e pos) (tS S W (sFldO c f i mo)) :=
  PS.imp (ps_fld ho he hs) fun d σ H ⟨F, env, ad, sr, p⟩ => ⟨F, env, ad, sr, (Post.fl p).imp fun oo e1 H1 F1 ad1 le1 sr1 q qa qfp oa hfr => by
    obtain ⟨C, k1, k2, k3⟩ := kl.ex
    rw [hK]
    cases oo with
    | od _ => exact q.elim
    | oz => exact q.elim
    | oll _ => exact q.elim
    | ot _ _ => exact q.elim
    | oi _ _ => exact q.elim
    | ol xs =>
    simp only at q
    cases q1 : modS e1 i (fldO c f (.l xs)) with
    | none => rw [q1] at q; exact q.elim
    | some e2 =>
      rw [q1] at q
      obtain ⟨s, o1, o2, b, x1, x2, x3, x4, x5, x6⟩ := modS_ok sr1 q1
      obtain ⟨rfl, ws, oa1, oa2⟩ := oa
      have hq := hfr qa (List.mem_cons_self ..)
      cases o1 with
      | oi c' fs =>
        have x7 : (if c' = c ∧ fs.length < 100 then some (Own.oi c (putFS f (.l xs) fs)) else none) = some o2 := x3
        split at x7
        · rename_i hc
          obtain ⟨hc1, hc2⟩ := hc
          subst hc1
          cases x7
          obtain ⟨C', dx, us, qs, y1, y2, y3, y4, y5, y6⟩ := x6
          rw [k1] at y1
          cases y1
          refine ⟨_, x5, b, C, dx, us, rfl, y3, k2, k3 f hf, by rw [y5.len]; omega, ?_⟩
          have ndx : dx ≠ b := fun z => by rw [z, y3] at y4; cases y4
          have nqb : qa ≠ b := fun z => by rw [z, y3] at oa1; cases oa1
          have nqs : qa ∉ qs := fun z => hq.2.2 i (by rw [y2]; exact List.mem_cons_of_mem _ (List.mem_cons_of_mem _ z))
          obtain ⟨qs', w1, w3, w2⟩ := y5.putL (f := f) oa1 oa2 y6 nqs
          have sr3 := sr1.chg (fp := b :: dx :: qs') (H' := upd H1 b (.ins C dx (putF f (.ref qa) us))) (o' := .oi c' (putFS f (.l xs) fs)) x1 x5 (fun a ha => upd_ne fun z => ha (by rw [y2, z]; exact List.mem_cons_self ..)) (fun a ha => by
            by_cases z : a = b
            · rw [z, upd_same] at ha; cases ha
            · rw [upd_ne z] at ha; exact ha) (fun a ps e => upd_tbl (fun _ z => by cases z) e) ⟨C, dx, _, qs', k1, rfl, upd_same, by rw [upd_ne ndx]; exact y4, w1.heap (fun a ha => upd_ne fun z => ?_), w3⟩ fun a ha => ?_
          · rw [← x4] at sr3
            exact q σ _ F1 _ (Le.refl F1) sr3
          · rcases w2 a ha with z1 | z1
            · obtain ⟨u, z2, z3⟩ := fldAt_lst y5 z1
              rw [z, y3] at z2
              cases z2
              rcases z3 with ⟨_, z3⟩ | ⟨_, _, _, _, z3⟩ <;> cases z3
            · exact nqb (z1.symm.trans z)
          · rcases List.mem_cons.mp ha with z | z
            · exact .inl (by rw [y2, z]; exact List.mem_cons_self ..)
            · rcases List.mem_cons.mp z with z | z
              · exact .inl (by rw [y2, z]; exact List.mem_cons_of_mem _ (List.mem_cons_self ..))
              · rcases w2 a z with z1 | z1
                · exact .inl (by rw [y2]; exact List.mem_cons_of_mem _ (List.mem_cons_of_mem _ z1))
                · rw [z1]
                  exact .inr hq
        · cases x7
      | ol _ => cases x3
      | od _ => cases x3
      | oz => cases x3
      | oll _ => cases x3
      | ot _ _ => cases x3⟩
def fldL (c f : Str) (g : List D → Option (List D)) : Own → Option Own
  | .oi c' fs => if c' = c then (match fs.lookup f with
    | some (.l xs) => (g xs).map fun ys => .oi c (putFS f (.l ys) fs)
    | _ => none) else none
  | _ => none
theorem fldL_ok {S : Gd} {σ : L2.St} {H F : Hp} {env e2 : Env} {ad : Nat → List Addr} {C : Addr} {g : List D → Option (List D)} (hC : S.T.cls c = some C) (sr : SR S σ H F env ad) (h : modS env i (fldL c f g) = some e2) :
    ∃ b dx us q vs xs ys, σ[i]? = some (some (.ref b)) ∧ H b = some (.ins C dx us) ∧ us.lookup f = some (.ref q) ∧ H q = some (.lst vs) ∧ RpAll S.T F vs xs ∧ g xs = some ys ∧ ∀ ws, RpAll S.T F ws ys → SR S σ (upd H q (.lst ws)) F e2 ad := by
  obtain ⟨s, o1, o2, b, x1, x2, x3, x4, x5, x6⟩ := modS_ok sr h
  cases o1 with
  | oi c' fs =>
    have x7 : (if c' = c then (match fs.lookup f with | some (.l xs) => (g xs).map fun ys => Own.oi c (putFS f (.l ys) fs) | _ => none) else none) = some o2 := x3
    split at x7
    · rename_i hc
      subst hc
      split at x7
      · rename_i xs hx
        obtain ⟨ys, x8, x9⟩ := Option.map_eq_some_iff.mp x7
        obtain ⟨C', dx, us, qs, y1, y2, y3, y4, y5, y6⟩ := x6
        rw [hC] at y1
        cases y1
        obtain ⟨q, vs, w1, w2, w3, w4⟩ := fldAt_l y5 hx
        have nb : b ≠ q := fun z => by rw [z, w3] at y3; cases y3
        have nd : dx ≠ q := fun z => by rw [z, w3] at y4; cases y4
        refine ⟨b, dx, us, q, vs, xs, ys, x5, y3, w1, w3, w4, x8, fun ws hr => ?_⟩
        have sr3 := sr.mut (H' := upd H q (.lst ws)) (o' := .oi c' (putFS f (.l ys) fs)) x1 x5 (fun a ha => upd_ne fun z => ha (by rw [y2, z]; exact List.mem_cons_of_mem _ (List.mem_cons_of_mem _ w2))) (fun a ha => by
          by_cases z : a = q
          · rw [z, upd_same] at ha; cases ha
          · rw [upd_ne z] at ha; exact ha) ⟨C, dx, us, qs, hC, y2, by rw [upd_ne nb]; exact y3, by rw [upd_ne nd]; exact y4, fldAt_set hr y6 y5 hx w1 w2, y6⟩
        rw [x4, ← x9]
        exact sr3
      · cases x7
    · cases x7
  | ol _ => cases x3
  | od _ => cases x3
  | oz => cases x3
  | oll _ => cases x3
  | ot _ _ => cases x3
def tQ (S : Gd) (m : Env → Option D) : TE := fun σ H Q => ∃ F env ad d, SR S σ H F env ad ∧ m env = some d ∧ ∀ v H' F', Le F F' → Le H H' → SR S σ H' F' env ad → Rp S.T F' v d → Q v H'
def qVar (i : Nat) : Env → Option D := fun env => match env[i]? with
  | some (.dat d) => some d
  | _ => none
theorem dq_pv (i : Nat) (h : PE X e (tVar i)) : PE X e (tQ S (qVar i)) := PE.imp h fun σ H Q ⟨F, env, ad, d, sr, hd, k⟩ => by
  unfold qVar at hd
  split at hd
  · rename_i d' q
    cases hd
    obtain ⟨_, v, e1, e2⟩ := sr.at_ i _ q
    exact ⟨v, e1, k v H F (Le.refl F) (Le.refl H) sr e2⟩
  · cases hd
def sSetF (c f : Str) (i : Nat) (mk : Env → Option D) (m : M D) : Env → Fl := fun env => (m env).fl fun d e1 => match mk e1 with
  | some (.int k) => (match modS e1 i (fldL c f fun xs => (ixN xs.length k).map fun j => xs.set j d) with
      | some e3 => .nx e3
      | none => .bad)
  | _ => .bad
theorem ds_setF {o : Expr} {pf : Pos} {mq : Env → Option D} (kl : Kl S.T c fl) (hf : f ∈ fl) (ho : PE X o (tVar i)) (hk : PE X a (tQ S mq)) (he : PE X e (tD S W m)) (hK : X.K = S.T.K := by rfl) (hb : attributeBase o f X.env (eval o X.env) = eval o X.env := by rfl)
    (hs : swapsWithSole [.Subscript (.Attribute o f pf) a pos'] e pos.line X.env = pure false := by rfl) (hw : swappedStores [.Subscript (.Attribute o f pf) a pos'] e X.env = pure none := by rfl)
    (h1 : (assignEach [.Subscript (.Attribute o f pf) a pos'] X.env).map (·.2) = [assign (.Subscript (.Attribute o f pf) a pos') X.env] := by rfl)
    (ha : ∀ v, assign (.Subscript (.Attribute o f pf) a pos') X.env v = (do
      let ov ← holding [v] (eval (.Attribute o f pf) X.env)
      let iv ← holding [v, ov] (eval a X.env)
      standAt pos'
      holding [v, ov, iv] (setItem ov iv v)
      release [v, ov, iv] []) := by intro _; rfl) : PS X (.Assign [.Subscript (.Attribute o f pf) a pos'] e pos) (tS S W (sSetF c f i mq m)) :=
  PS.imp (ps_asg he (pg_sub (pe_fld ho hb) hk set_list ha) hs hw h1) fun d σ H ⟨F, env, ad, sr, p⟩ => ⟨F, env, ad, sr, (Post.fl p).imp fun x e1 H1 F1 ad1 le1 sr1 q v r => by
    obtain ⟨C, k1, k2, k3⟩ := kl.ex
    rw [hK]
    cases q0 : mq e1 with
    | none => rw [q0] at q; exact q.elim
    | some dk =>
      rw [q0] at q
      cases dk with
      | int k =>
        simp only at q
        cases q3 : modS e1 i (fldL c f fun xs => (ixN xs.length k).map fun j => xs.set j x) with
        | none => rw [q3] at q; exact q.elim
        | some e3 =>
          rw [q3] at q
          obtain ⟨b, dx, us, qa, vs, xs, ys, y1, y2, y3, y4, y5, y6, y7⟩ := fldL_ok k1 sr1 q3
          refine ⟨_, y1, b, C, dx, us, _, rfl, y2, k2, k3 f hf, y3, F1, e1, ad1, .int k, sr1, q0, fun u H2 F2 l1 l2 sr2 ru => ?_⟩
          cases ru
          obtain ⟨b', dx', us', qa', vs', xs', ys', z1, z2, z3, z4, z5, z6, z7⟩ := fldL_ok k1 sr2 q3
          rw [y1] at z1
          cases z1
          have w1 := l2 b _ y2
          rw [w1] at z2
          cases z2
          rw [y3] at z3
          cases z3
          obtain ⟨j, w3, w4⟩ := Option.map_eq_some_iff.mp z6
          refine ⟨qa, vs', k, j, rfl, rfl, z4, by rw [z5.length]; exact w3, ?_⟩
          refine q σ _ F2 ad1 l1 (z7 _ ?_)
          rw [← w4]
          exact RpAll.set (r.mono l1) j z5
      | non => exact q.elim
      | bl _ => exact q.elim
      | str _ => exact q.elim
      | lst _ => exact q.elim
      | tup _ => exact q.elim
      | ins _ _ _ => exact q.elim
      | scr _ => exact q.elim
      | exc _ => exact q.elim
      | dct _ _ => exact q.elim
      | wd _ => exact q.elim
      | raw _ => exact q.elim⟩
end
section
variable {X : Cx} {S : Gd} {W : WX} {e e2 tg : Expr} {elts : List Expr} {kk : Nat} {pos p tpos : Pos} {m : M D} {l : M (List D)}
def charsD (z : Str) : List D := z.cps.toList.map fun c => .str ⟨#[c]⟩
theorem it_str {T : Tb} {F : Hp} (z : Str) : ItD T F (Its z) (charsD z) := fun H le i => by
  refine ⟨fun d e => ?_, fun hl => ?_⟩
  · unfold charsD at e
    rw [List.getElem?_map] at e
    obtain ⟨c, e1, e2⟩ := Option.map_eq_some_iff.mp e
    have e3 : z.cps[i]? = some c := by rw [← Array.getElem?_toList]; exact e1
    refine ⟨(Array.getElem?_eq_some_iff.mp e3).1, fun x H' hy => .inl ⟨hy.1, ?_⟩⟩
    obtain ⟨c', y1, y2⟩ := hy.2
    rw [e3] at y1
    cases y1
    rw [y2, ← e2]
    exact .str _
  · unfold charsD at hl
    rw [List.length_map, Array.length_toList] at hl
    exact Nat.le_of_eq hl.symm
def iStr (m : M D) : M (List D) := fun env => (m env).bind fun d e => match d with
  | .str z => .ok (charsD z) e
  | _ => .bad
theorem di_str (h : PE X e (tD S W m)) : PI X tg e (tI S W (iStr m)) :=
  PI.imp (pi_str h) fun σ H R ⟨F, env, ad, sr, p⟩ => ⟨F, env, ad, sr, p.bind.imp fun d e1 H1 F1 ad1 le1 sr1 q v r => by
    have q2 := q.2
    cases r with
    | str z => exact ⟨z, rfl, q2 H1 F1 ad1 (Le.refl F1) sr1 _ (it_str z)⟩
    | non => exact q2.elim
    | bl _ => exact q2.elim
    | int _ => exact q2.elim
    | lst _ _ => exact q2.elim
    | tup _ _ => exact q2.elim
    | ins _ _ _ _ => exact q2.elim
    | scr _ => exact q2.elim
    | exc _ _ => exact q2.elim
    | dct _ _ _ _ => exact q2.elim
    | wd _ => exact q2.elim
    | raw _ => exact q2.elim⟩
def enumD (k : Nat) : List D → List D
  | [] => []
  | d :: r => .tup [.int k, d] :: enumD (k + 1) r
theorem enumD_get : ∀ (ds : List D) (k i : Nat) (d : D), (enumD k ds)[i]? = some d → ∃ x, ds[i]? = some x ∧ d = .tup [.int ((k + i : Nat) : Int), x]
  | [], _, _, _, e => by simp [enumD] at e
  | x :: r, k, 0, d, e => by
    have e2 : some (D.tup [.int k, x]) = some d := e
    cases e2
    exact ⟨x, rfl, rfl⟩
  | x :: r, k, i + 1, d, e => by
    have e2 : (enumD (k + 1) r)[i]? = some d := e
    obtain ⟨y, h1, h2⟩ := enumD_get r (k + 1) i d e2
    refine ⟨y, by simpa using h1, ?_⟩
    rw [h2, show k + 1 + i = k + (i + 1) by omega]
theorem enumD_length : ∀ (ds : List D) (k : Nat), (enumD k ds).length = ds.length
  | [], _ => rfl
  | _ :: r, k => by
    show (enumD (k + 1) r).length + 1 = _
    rw [enumD_length r]
    rfl
theorem it_enum {T : Tb} {F : Hp} {a : Addr} {vs : List V} {ds : List D} (h : F a = some (.lst vs)) (r : RpAll T F vs ds) : ItD T F (Ite T.K a) (enumD 0 ds) := fun H le i => by
  have hq : SqL T.K H a vs := .of (le _ _ h)
  refine ⟨fun d e => ?_, fun hl => ⟨vs, hq, by rw [r.length, ← enumD_length ds 0]; exact Nat.le_of_eq hl.symm⟩⟩
  obtain ⟨x, e1, e2⟩ := enumD_get ds 0 i d e
  obtain ⟨v, v1, v2⟩ := r.get e1
  refine ⟨⟨vs, v, hq, v1⟩, fun y H' hy => .inr ?_⟩
  obtain ⟨t, z, z1, z2, z3, z4⟩ := hy
  have z5 := z4 vs hq
  rw [v1] at z5
  cases z5
  rw [Nat.zero_add] at e2
  exact ⟨t, _, _, z2, z3, z1, e2, .cons (.int _) (.one v2)⟩
def iEnu (l : M (List D)) : M (List D) := fun env => (l env).bind fun ds e => match ds with
  | [.lst xs] => .ok (enumD 0 xs) e
  | _ => .bad
theorem di_enum (hg : Gl X "enumerate") (hm : X.mg "enumerate" = none) (ha : PA X [e] (tL S W l)) (hK : X.K = S.T.K := by rfl) (hs : starEach [e] X.env = [(false, eval e X.env)] := by rfl) : PI X (.Tuple elts kk tpos) (.Call (.Name "enumerate" p) [e] [] pos) (tI S W (iEnu l)) :=
  PI.imp (pi_enum hg hm ha hs) fun σ H R ⟨F, env, ad, sr, p⟩ => ⟨F, env, ad, sr, p.bind.imp fun ds e1 H1 F1 ad1 le1 sr1 q vs rs => by
    rw [hK]
    have q2 := q.2
    split at q2
    · cases rs with
      | cons h t =>
        cases t
        cases h with
        | lst h1 r1 => exact ⟨_, _, rfl, .of (sr1.sub _ _ h1), q2 H1 F1 ad1 (Le.refl F1) sr1 _ (it_enum h1 r1)⟩
    · exact q2.elim⟩
end
end DL
set_option Elab.async false
set_option linter.all false
set_option maxRecDepth 100000
set_option maxHeartbeats 2000000
namespace DLZ
open PySem
open PySem.Sem (wp)
theorem Draws.tuple {prog : Program} {w : World} {A : Around} (hh : A.handled = none) (it l : Addr) (hne : l ≠ it) (items : Array Value) :
    Draws prog w A it [it, l] items.size (fun i v => items[i]? = some v) (fun i h => h.IsTupleIter it l i ∧ h.IsTuple l items) where
  live := fun _ _ st => let ⟨o, ho, _⟩ := st.1; ⟨o, ho⟩
  frame := fun _ _ _ st hk => ⟨st.1.at fun o e => hk it (by simp) o e, let ⟨o, ho, r⟩ := st.2; ⟨o, hk l (by simp) o ho, r⟩⟩
  item := fun i s Q E hi st hQ => by
    refine RZ.nextOf_tuple_item st.1 st.2 (x := items[i]) (by simp [hi]) fun h' hit' hs' => ?_
    exact hQ _ h' s.toks (by simp [hi]) ⟨hit', st.2.extBut hs'.extBut hne⟩ hs'
  done := fun s Q E st hE => RZ.nextOf_tuple_end hh st.1 st.2 (by simp) hE
section
variable {prog : Program} {w : World} {A : Around} {E : Value → Shared → Prop} {s : Shared}
structure Apart (z TI TO i1 i2 : Addr) (fp1 fp2 : List Addr) : Prop where
  TIz : TI ≠ z
  TOz : TO ≠ z
  i1z : i1 ≠ z
  i2z : i2 ≠ z
  TITO : TI ≠ TO
  TIi1 : TI ≠ i1
  TIi2 : TI ≠ i2
  TOi1 : TO ≠ i1
  TOi2 : TO ≠ i2
  i12 : i1 ≠ i2
  z1 : z ∉ fp1
  z2 : z ∉ fp2
  T1 : TO ∉ fp1
  T2 : TO ∉ fp2
  i21 : i2 ∉ fp1
  i1f : i1 ∉ fp2
theorem zipG_next_item {z TI TO i1 i2 : Addr} {fp1 fp2 : List Addr} {n1 n2 k : Nat} {P1 P2 : Nat → Value → Prop} {S1 S2 : Nat → Heap → Prop} {a b : Value} {Q : Value → Shared → Prop} (D : Apart z TI TO i1 i2 fp1 fp2)
    (D1 : Draws prog w A i1 fp1 n1 P1 S1) (D2 : Draws prog w A i2 fp2 n2 P2 S2)
    (hz : IsZip s.heap z TI TO .none) (hTI : IsPair s.heap TI (.ref i1) (.ref i2)) (hTO : IsPair s.heap TO a b) (h1 : S1 k s.heap) (h2 : S2 k s.heap) (hx : k < n1) (hy : k < n2)
    (hQ : ∀ x y h' tk, P1 k x → P2 k y → IsZip h' z TI TO (rawInt s.heap.objs.size) → IsPair h' TO x y → S1 (k + 1) h' → S2 (k + 1) h' → IsPair h' s.heap.objs.size x y → h'.objs.size = s.heap.objs.size + 1 →
      (∀ c o, c ≠ z → c ≠ TO → c ≠ i1 → c ≠ i2 → s.heap.get? c = some o → h'.get? c = some o) → Q (.ref s.heap.objs.size) { s with heap := h', toks := tk }) :
    wpAny (model prog w) A (Builtin.«zip.__next__» ⟨[.ref z], []⟩) (fun fin s' => ∃ v, fin = .done (.ret v) ∧ Q v s') E s := by
  show wpAny _ _ (field (.ref z) 2 >>= _) _ _ _
  refine wpAny_bind (wpAny_field hz rfl (x := .bool false) rfl ?_)
  show wpAny _ _ (field (.ref z) 3 >>= _) _ _ _
  refine wpAny_bind (wpAny_field hz rfl (x := .ref TI) rfl ?_)
  refine wpAny_bind (wpAny_seqItems hTI rfl ?_)
  show wpAny _ _ (Builtin.SmallTypes.ownedTupleIsFree (.ref z) >>= _) _ _ _
  refine wpAny_bind ?_
  unfold Builtin.SmallTypes.ownedTupleIsFree
  refine wpAny_bind (wpAny_field hz rfl (x := .none) rfl (wpAny_pure ?_))
  simp only [if_true]
  refine wpAny_bind (wpAny_rule ?_)
  refine wpAny_bind (wpAny_field hz rfl (x := .ref TO) rfl ?_)
  refine wpAny_bind (wpAny_setField_rec hz (by simp) fun h₁ hz₁ hs₁ => ?_)
  replace hz₁ : IsZip h₁ z TI TO .ellipsis := hz₁
  refine wpAny_bind ?_
  simp only [List.zipIdx_cons, List.zipIdx_nil, List.forIn_cons, List.forIn_nil]
  refine wpAny_bind (wpAny_bind (wpAny_onRaise ?_))
  show wpAny _ _ (Builtin.SmallTypes.nextOf (.ref i1) >>= _) _ _ _
  refine wpAny_bind (D1.item k _ _ _ hx (D1.frame _ _ _ h1 fun c hc o e => hs₁.extBut _ _ (fun q => D.z1 (q ▸ hc)) e) fun x h₂ tk1 px h1₂ hs₂ => wpAny_pure ?_)
  replace hs₂ : Heap.SameBut i1 h₁ h₂ := hs₂
  have hTO₂ : IsPair h₂ TO a b := hs₂.extBut _ _ D.TOi1 (hs₁.extBut _ _ D.TOz hTO)
  refine wpAny_bind (wpAny_seqItems hTO₂ rfl ?_)
  refine wpAny_bind (wpAny_updateSeq_pair hTO₂ fun h₃ hTO₃ hs₃ => ?_)
  replace hTO₃ : IsPair h₃ TO x b := hTO₃
  replace hs₃ : Heap.SameBut TO h₂ h₃ := hs₃
  refine wpAny_bind (wpAny_letGo (wpAny_pure ?_))
  refine wpAny_bind (wpAny_bind (wpAny_onRaise ?_))
  show wpAny _ _ (Builtin.SmallTypes.nextOf (.ref i2) >>= _) _ _ _
  refine wpAny_bind (D2.item k _ _ _ hy (D2.frame _ _ _ h2 fun c hc o e => hs₃.extBut _ _ (fun q => D.T2 (q ▸ hc)) (hs₂.extBut _ _ (fun q => D.i1f (q ▸ hc)) (hs₁.extBut _ _ (fun q => D.z2 (q ▸ hc)) e))) fun y h₄ tk2 py h2₄ hs₄ => wpAny_pure ?_)
  replace hs₄ : Heap.SameBut i2 h₃ h₄ := hs₄
  have hTO₄ : IsPair h₄ TO x b := hs₄.extBut _ _ D.TOi2 hTO₃
  refine wpAny_bind (wpAny_seqItems hTO₄ rfl ?_)
  refine wpAny_bind (wpAny_updateSeq_pair hTO₄ fun h₅ hTO₅ hs₅ => ?_)
  replace hTO₅ : IsPair h₅ TO x y := hTO₅
  replace hs₅ : Heap.SameBut TO h₄ h₅ := hs₅
  refine wpAny_bind (wpAny_letGo (wpAny_pure (wpAny_pure ?_)))
  refine wpAny_bind (wpAny_seqItems hTO₅ rfl ?_)
  refine wpAny_bind (wpAny_newTuple ?_)
  have hsz : h₅.objs.size = s.heap.objs.size := by rw [hs₅.1, hs₄.1, hs₃.1, hs₂.1, hs₁.1]
  have hz₅ : IsZip h₅ z TI TO .ellipsis := hs₅.extBut _ _ D.TOz.symm (hs₄.extBut _ _ D.i2z.symm (hs₃.extBut _ _ D.TOz.symm (hs₂.extBut _ _ D.i1z.symm hz₁)))
  have hk₅ : ∀ c o, c ≠ z → c ≠ TO → c ≠ i1 → c ≠ i2 → s.heap.get? c = some o → h₅.get? c = some o := fun c o c1 c2 c3 c4 e =>
    hs₅.extBut _ _ c2 (hs₄.extBut _ _ c4 (hs₃.extBut _ _ c2 (hs₂.extBut _ _ c3 (hs₁.extBut _ _ c1 e))))
  have h1₅ : S1 (k + 1) h₅ := D1.frame _ _ _ h1₂ fun c hc o e => hs₅.extBut _ _ (fun q => D.T1 (q ▸ hc)) (hs₄.extBut _ _ (fun q => D.i21 (q ▸ hc)) (hs₃.extBut _ _ (fun q => D.T1 (q ▸ hc)) e))
  have h2₅ : S2 (k + 1) h₅ := D2.frame _ _ _ h2₄ fun c hc o e => hs₅.extBut _ _ (fun q => D.T2 (q ▸ hc)) e
  have hzlt : z < h₅.objs.size := Heap.lt_size hz₅
  have hTOlt : TO < h₅.objs.size := Heap.lt_size hTO₅
  show wpAny _ _ (Builtin.SmallTypes.ownedTupleHandOut (.ref z) (.ref h₅.objs.size) >>= _) _ _ _
  refine wpAny_bind ?_
  unfold Builtin.SmallTypes.ownedTupleHandOut
  have hz₆ : IsZip (h₅.push { cls := .type "tuple", data := .seq #[x, y] }) z TI TO .ellipsis := Heap.get?_push_of_some _ hz₅
  refine wpAny_bind (wpAny_setField_rec hz₆ (by simp) fun h₇ hz₇ hs₇ => ?_)
  replace hz₇ : IsZip h₇ z TI TO (rawInt h₅.objs.size) := hz₇
  refine wpAny_setField_rec hz₇ (by simp) fun h₈ hz₈ hs₈ => ?_
  replace hz₈ : IsZip h₈ z TI TO (rawInt h₅.objs.size) := hz₈
  have up : ∀ c o, c ≠ z → h₅.get? c = some o → h₈.get? c = some o := fun c o c1 e => hs₈.extBut _ _ c1 (hs₇.extBut _ _ c1 (Heap.get?_push_of_some _ e))
  have hT₈ : IsPair h₈ h₅.objs.size x y := hs₈.extBut _ _ (Nat.ne_of_gt hzlt) (hs₇.extBut _ _ (Nat.ne_of_gt hzlt) (Heap.get?_push_size _ rfl))
  have hz8 : h₈.objs.size = h₅.objs.size + 1 := by rw [hs₈.1, hs₇.1, Heap.size_push]
  rw [hsz] at hz₈ hT₈ hz8
  refine wpAny_pure ⟨_, rfl, ?_⟩
  show Q (.ref h₅.objs.size) _
  rw [hsz]
  exact hQ x y h₈ _ px py hz₈ (up _ _ D.TOz hTO₅) (D1.frame _ _ _ h1₅ fun c hc o e => up c o (fun q => D.z1 (q ▸ hc)) e) (D2.frame _ _ _ h2₅ fun c hc o e => up c o (fun q => D.z2 (q ▸ hc)) e) hT₈ hz8 fun c o c1 c2 c3 c4 e => up c o c1 (hk₅ c o c1 c2 c3 c4 e)
theorem zipG_next_end {z TI TO i1 i2 : Addr} {fp1 fp2 : List Addr} {n1 n2 k : Nat} {P1 P2 : Nat → Value → Prop} {S1 S2 : Nat → Heap → Prop} {a b : Value} {Q : Fin → Shared → Prop} (D : Apart z TI TO i1 i2 fp1 fp2)
    (D1 : Draws prog w A i1 fp1 n1 P1 S1) (D2 : Draws prog w A i2 fp2 n2 P2 S2)
    (hz : IsZip s.heap z TI TO .none) (hTI : IsPair s.heap TI (.ref i1) (.ref i2)) (hTO : IsPair s.heap TO a b) (h1 : S1 k s.heap) (h2 : S2 k s.heap) (hend : k = n1 ∨ (k < n1 ∧ k = n2))
    (hE : ∀ h' e tk, (∀ c o, c ≠ z → c ≠ TO → c ≠ i1 → c ≠ i2 → s.heap.get? c = some o → h'.get? c = some o) → (∃ o, h'.get? e = some o ∧ o.cls = .type "StopIteration") → E (.ref e) { s with heap := h', toks := tk }) :
    wpAny (model prog w) A (Builtin.«zip.__next__» ⟨[.ref z], []⟩) Q E s := by
  show wpAny _ _ (field (.ref z) 2 >>= _) _ _ _
  refine wpAny_bind (wpAny_field hz rfl (x := .bool false) rfl ?_)
  show wpAny _ _ (field (.ref z) 3 >>= _) _ _ _
  refine wpAny_bind (wpAny_field hz rfl (x := .ref TI) rfl ?_)
  refine wpAny_bind (wpAny_seqItems hTI rfl ?_)
  show wpAny _ _ (Builtin.SmallTypes.ownedTupleIsFree (.ref z) >>= _) _ _ _
  refine wpAny_bind ?_
  unfold Builtin.SmallTypes.ownedTupleIsFree
  refine wpAny_bind (wpAny_field hz rfl (x := .none) rfl (wpAny_pure ?_))
  simp only [if_true]
  refine wpAny_bind (wpAny_rule ?_)
  refine wpAny_bind (wpAny_field hz rfl (x := .ref TO) rfl ?_)
  refine wpAny_bind (wpAny_setField_rec hz (by simp) fun h₁ hz₁ hs₁ => ?_)
  replace hz₁ : IsZip h₁ z TI TO .ellipsis := hz₁
  refine wpAny_bind ?_
  simp only [List.zipIdx_cons, List.zipIdx_nil, List.forIn_cons, List.forIn_nil]
  refine wpAny_bind (wpAny_bind (wpAny_onRaise ?_))
  show wpAny _ _ (Builtin.SmallTypes.nextOf (.ref i1) >>= _) _ _ _
  have f1 : S1 k h₁ := D1.frame _ _ _ h1 fun c hc o e => hs₁.extBut _ _ (fun q => D.z1 (q ▸ hc)) e
  rcases hend with hk | ⟨hk, hk2⟩
  · subst hk
    refine wpAny_bind (D1.done _ _ _ f1 fun h₂ e hs₂ he => ?_)
    obtain ⟨oe, hoe, hce⟩ := he
    replace hs₂ : Heap.ExtBut i1 h₁ h₂ := hs₂
    have hz₂ : IsZip h₂ z TI TO .ellipsis := hs₂ _ _ D.i1z.symm hz₁
    have hez : e ≠ z := fun x => by subst x; rw [hz₂] at hoe; cases hoe; simp at hce
    refine wpAny_setField_rec hz₂ (by simp) fun h₃ _ hs₃ => hE h₃ e _ (fun c o c1 _ c3 _ x => hs₃.extBut _ _ c1 (hs₂ _ _ c3 (hs₁.extBut _ _ c1 x))) ⟨oe, hs₃.extBut _ _ hez hoe, hce⟩
  · subst hk2
    refine wpAny_bind (D1.item k _ _ _ hk f1 fun x h₂ tk1 px h1₂ hs₂ => wpAny_pure ?_)
    replace hs₂ : Heap.SameBut i1 h₁ h₂ := hs₂
    have hTO₂ : IsPair h₂ TO a b := hs₂.extBut _ _ D.TOi1 (hs₁.extBut _ _ D.TOz hTO)
    refine wpAny_bind (wpAny_seqItems hTO₂ rfl ?_)
    refine wpAny_bind (wpAny_updateSeq_pair hTO₂ fun h₃ hTO₃ hs₃ => ?_)
    replace hs₃ : Heap.SameBut TO h₂ h₃ := hs₃
    refine wpAny_bind (wpAny_letGo (wpAny_pure ?_))
    refine wpAny_bind (wpAny_bind (wpAny_onRaise ?_))
    show wpAny _ _ (Builtin.SmallTypes.nextOf (.ref i2) >>= _) _ _ _
    refine wpAny_bind (D2.done _ _ _ (D2.frame _ _ _ h2 fun c hc o e => hs₃.extBut _ _ (fun q => D.T2 (q ▸ hc)) (hs₂.extBut _ _ (fun q => D.i1f (q ▸ hc)) (hs₁.extBut _ _ (fun q => D.z2 (q ▸ hc)) e))) fun h₄ e hs₄ he => ?_)
    obtain ⟨oe, hoe, hce⟩ := he
    replace hs₄ : Heap.ExtBut i2 h₃ h₄ := hs₄
    have hz₄ : IsZip h₄ z TI TO .ellipsis := hs₄ _ _ D.i2z.symm (hs₃.extBut _ _ D.TOz.symm (hs₂.extBut _ _ D.i1z.symm hz₁))
    have hez : e ≠ z := fun x => by subst x; rw [hz₄] at hoe; cases hoe; simp at hce
    refine wpAny_setField_rec hz₄ (by simp) fun h₅ _ hs₅ => hE h₅ e _ (fun c o c1 c2 c3 c4 x => hs₅.extBut _ _ c1 (hs₄ _ _ c4 (hs₃.extBut _ _ c2 (hs₂.extBut _ _ c3 (hs₁.extBut _ _ c1 x))))) ⟨oe, hs₅.extBut _ _ hez hoe, hce⟩
theorem pyNext_zipG_item {z TI TO i1 i2 : Addr} {fp1 fp2 : List Addr} {n1 n2 k : Nat} {P1 P2 : Nat → Value → Prop} {S1 S2 : Nat → Heap → Prop} {a b : Value} {Q : Option Value → Shared → Prop} (D : Apart z TI TO i1 i2 fp1 fp2)
    (D1 : Draws prog w A.in1 i1 fp1 n1 P1 S1) (D2 : Draws prog w A.in1 i2 fp2 n2 P2 S2)
    (hz : IsZip s.heap z TI TO .none) (hTI : IsPair s.heap TI (.ref i1) (.ref i2)) (hTO : IsPair s.heap TO a b) (h1 : S1 k s.heap) (h2 : S2 k s.heap) (hx : k < n1) (hy : k < n2)
    (hQ : ∀ x y h' tk, P1 k x → P2 k y → IsZip h' z TI TO (rawInt s.heap.objs.size) → IsPair h' TO x y → S1 (k + 1) h' → S2 (k + 1) h' → IsPair h' s.heap.objs.size x y → h'.objs.size = s.heap.objs.size + 1 →
      (∀ c o, c ≠ z → c ≠ TO → c ≠ i1 → c ≠ i2 → s.heap.get? c = some o → h'.get? c = some o) → Q (some (.ref s.heap.objs.size)) { s with heap := h', toks := tk }) :
    wpAny (model prog w) A (pyNext (.ref z)) Q E s := by
  have hT : s.TypeIs (.ref z) "zip" := ⟨_, hz, rfl⟩
  unfold pyNext
  exact wpAny_bind (wpAny_attempt (wpAny_callSpecial?_slot (name := Str.ofString "__next__") hT F.slot_zip_next
    (wpAny_call_entry F.slot_zip_next hT F.entry_zip_next
      (zipG_next_item D D1 D2 hz hTI hTO h1 h2 hx hy fun x y h' tk a0 b0 a1 a2 a3 a4 a5 a6 a7 => wpAny_pure (hQ x y h' tk a0 b0 a1 a2 a3 a4 a5 a6 a7)) (F.args_zip_next_1 _))))
theorem pyNext_zipG_end {z TI TO i1 i2 : Addr} {fp1 fp2 : List Addr} {n1 n2 k : Nat} {P1 P2 : Nat → Value → Prop} {S1 S2 : Nat → Heap → Prop} {a b : Value} {Q : Option Value → Shared → Prop} (D : Apart z TI TO i1 i2 fp1 fp2)
    (D1 : Draws prog w A.in1 i1 fp1 n1 P1 S1) (D2 : Draws prog w A.in1 i2 fp2 n2 P2 S2)
    (hz : IsZip s.heap z TI TO .none) (hTI : IsPair s.heap TI (.ref i1) (.ref i2)) (hTO : IsPair s.heap TO a b) (h1 : S1 k s.heap) (h2 : S2 k s.heap) (hend : k = n1 ∨ (k < n1 ∧ k = n2))
    (hQ : ∀ h' tk, (∀ c o, c ≠ z → c ≠ TO → c ≠ i1 → c ≠ i2 → s.heap.get? c = some o → h'.get? c = some o) → Q none { s with heap := h', toks := tk }) : wpAny (model prog w) A (pyNext (.ref z)) Q E s := by
  have hT : s.TypeIs (.ref z) "zip" := ⟨_, hz, rfl⟩
  unfold pyNext
  refine wpAny_bind (wpAny_attempt (wpAny_callSpecial?_slot (name := Str.ofString "__next__") hT F.slot_zip_next
    (wpAny_call_entry F.slot_zip_next hT F.entry_zip_next (zipG_next_end D D1 D2 hz hTI hTO h1 h2 hend fun h' e tk hk he => ?_) (F.args_zip_next_1 _))))
  obtain ⟨o, ho, hc⟩ := he
  refine wpAny_bind (wpAny_isInstance (T := "StopIteration") (b := true) ⟨o, ho, hc⟩ isSubtype_stop ?_)
  exact wpAny_pure (hQ _ _ hk)
end
abbrev gH1 (h : Heap) (o1 : Obj) : Heap := h.push o1
abbrev gH2 (h : Heap) (o1 o2 : Obj) : Heap := (gH1 h o1).push o2
abbrev gH3 (h : Heap) (o1 o2 : Obj) : Heap := (gH2 h o1 o2).push { cls := .type "tuple", data := .seq #[.ref h.objs.size, .ref (gH1 h o1).objs.size] }
abbrev gH4 (h : Heap) (o1 o2 : Obj) : Heap := (gH3 h o1 o2).push { cls := .type "tuple", data := .seq #[.none, .none] }
abbrev gH5 (h : Heap) (o1 o2 : Obj) : Heap := (gH4 h o1 o2).push { cls := .type "zip", data := .fields #[.none, .bool false, .bool false, .ref (gH2 h o1 o2).objs.size, .ref (gH3 h o1 o2).objs.size] }
def Iters (v : Value) (C : Heap → Prop) (o : Obj) : Prop := ∀ (prog : Program) (w : World) (A : Around) (E : Value → Shared → Prop) (s : Shared) (Q : Value → Shared → Prop), C s.heap → Q (.ref s.heap.objs.size) { s with heap := s.heap.push o } → wpAny (model prog w) A (pyIter v) Q E s
theorem meets_zipG_new {v1 v2 : Value} {C1 C2 : Heap → Prop} {o1 o2 : Obj} (h1 : Iters v1 C1 o1) (h2 : Iters v2 C2 o2) (hp2 : ∀ h : Heap, C2 h → C2 (h.push o1)) :
    Meets (Builtin.«zip.__new__» ⟨[.type "zip", v1, v2], []⟩) (fun _ R s => C1 s.heap ∧ C2 s.heap ∧ R (.ok (.ret (.ref (gH4 s.heap o1 o2).objs.size))) { s with heap := gH5 s.heap o1 o2 }) :=
  .of_wp fun prog w A R s h => by
    obtain ⟨hp, g, d, tk, os⟩ := s; obtain ⟨hl1, hl2, h⟩ := h
    have hsub := sub_zip
    have hL1 : C1 (Shared.heap ⟨hp, g, d, tk, os⟩) := hl1
    have hL2 : C2 (Shared.heap ⟨hp.push o1, g, d, tk, os⟩) := hp2 _ hl2
    have i1 := fun (A : Around) (E : Value → Shared → Prop) (Q : Value → Shared → Prop) => h1 prog w A E ⟨hp, g, d, tk, os⟩ Q hL1
    have i2 := fun (A : Around) (E : Value → Shared → Prop) (Q : Value → Shared → Prop) => h2 prog w A E ⟨hp.push o1, g, d, tk, os⟩ Q hL2
    wp_walk using i1 _ _ _, i2 _ _ _
    exact ⟨_, rfl, h⟩
section
variable {prog : Program} {w : World} {A : Around} {E : Value → Shared → Prop} {s : Shared}
theorem call_zipG {v1 v2 : Value} {C1 C2 : Heap → Prop} {o1 o2 : Obj} {Q : Value → Shared → Prop} (i1 : Iters v1 C1 o1) (i2 : Iters v2 C2 o2) (hp2 : ∀ h : Heap, C2 h → C2 (h.push o1)) (hl1 : C1 s.heap) (hl2 : C2 s.heap) (hf1 : o1.isFreed = false) (hf2 : o2.isFreed = false)
    (h : ∀ h', IsZip h' (s.heap.objs.size + 4) (s.heap.objs.size + 2) (s.heap.objs.size + 3) .none → IsPair h' (s.heap.objs.size + 2) (.ref s.heap.objs.size) (.ref (s.heap.objs.size + 1)) →
      IsPair h' (s.heap.objs.size + 3) .none .none → h'.get? s.heap.objs.size = some o1 → h'.get? (s.heap.objs.size + 1) = some o2 → h'.objs.size = s.heap.objs.size + 5 →
      (∀ c o, s.heap.get? c = some o → h'.get? c = some o) → Q (.ref (s.heap.objs.size + 4)) { s with heap := h' }) :
    wpAny (model prog w) A (call (.type "zip") [v1, v2]) Q E s := by
  refine callType_new F.called_zip (by decide) (F.typeCall_zip_2 _ _) (F.newCall_zip_2 _ _) (fun obj => F.args_object_init_3 obj _ _) F.entry_zip_new
    (meets_zipG_new i1 i2 hp2) ⟨hl1, hl2, ?_⟩
  have z1 : (gH1 s.heap o1).objs.size = s.heap.objs.size + 1 := Heap.size_push ..
  have z2 : (gH2 s.heap o1 o2).objs.size = s.heap.objs.size + 2 := by rw [Heap.size_push, z1]
  have z3 : (gH3 s.heap o1 o2).objs.size = s.heap.objs.size + 3 := by rw [Heap.size_push, z2]
  have z4 : (gH4 s.heap o1 o2).objs.size = s.heap.objs.size + 4 := by rw [Heap.size_push, z3]
  have z5 : (gH5 s.heap o1 o2).objs.size = s.heap.objs.size + 5 := by rw [Heap.size_push, z4]
  have g5 : (gH5 s.heap o1 o2).get? (gH4 s.heap o1 o2).objs.size = some _ := Heap.get?_push_size _ rfl
  have g4 : (gH5 s.heap o1 o2).get? (gH3 s.heap o1 o2).objs.size = some _ := Heap.get?_push_of_some _ (Heap.get?_push_size _ rfl)
  have g3 : (gH5 s.heap o1 o2).get? (gH2 s.heap o1 o2).objs.size = some _ := Heap.get?_push_of_some _ (Heap.get?_push_of_some _ (Heap.get?_push_size _ rfl))
  have g2 : (gH5 s.heap o1 o2).get? (gH1 s.heap o1).objs.size = some _ := Heap.get?_push_of_some _ (Heap.get?_push_of_some _ (Heap.get?_push_of_some _ (Heap.get?_push_size _ hf2)))
  have g1 : (gH5 s.heap o1 o2).get? s.heap.objs.size = some _ := Heap.get?_push_of_some _ (Heap.get?_push_of_some _ (Heap.get?_push_of_some _ (Heap.get?_push_of_some _ (Heap.get?_push_size _ hf1))))
  show _ ∧ _
  rw [z2, z3, z4] at g5
  rw [z1, z2] at g3
  rw [z3] at g4
  rw [z1] at g2
  rw [z4]
  exact ⟨⟨_, g5, rfl⟩, h _ g5 g3 g4 g1 g2 z5 fun c o x =>
    Heap.get?_push_of_some _ (Heap.get?_push_of_some _ (Heap.get?_push_of_some _ (Heap.get?_push_of_some _ (Heap.get?_push_of_some _ x))))⟩
end
theorem iters_list (l : Addr) (xs : Array Value) : Iters (.ref l) (fun h => h.IsList l xs) { cls := .type "list_iterator", data := .fields #[.ref l, .int 0 0] } := fun prog w A E s Q hl h => wpAny_pyIter_list hl h
theorem iters_tuple (l : Addr) (xs : Array Value) : Iters (.ref l) (fun h => h.IsTuple l xs) { cls := .type "tuple_iterator", data := .fields #[.ref l, .int 0 0] } := fun prog w A E s Q hl h => wpAny_pyIter_tuple hl h
theorem iters_str (x : Str) (t : Tok) : Iters (.str x t) (fun _ => True) { cls := .type (strIterType x), data := .fields #[.str x t, .int 0 0] } := fun prog w A E s Q _ h => wpAny_pyIter_strU h
end DLZ
set_option Elab.async false
set_option linter.all false
set_option maxRecDepth 100000
set_option maxHeartbeats 2000000
namespace DL
open PySem PySem.Spec PyProof.Rows L2 DLZ
inductive Src where
  | lst (a : Addr) | tup (a : Addr) | txt (z : Str)
namespace Src
def v : Src → V
  | .lst a => .ref a
  | .tup a => .ref a
  | .txt z => .str z
def ad : Src → List Addr
  | .lst a => [a]
  | .tup a => [a]
  | .txt _ => []
def At (K : PySem.W.Frag) (H : Hp) : Src → List V → Prop
  | .lst a, xs => SqL K H a xs
  | .tup a, xs => SqT K H a xs
  | .txt z, xs => xs = z.cps.toList.map fun c => V.str ⟨#[c]⟩
def Iter (it : Addr) (t : Tok) (i : Nat) (h : Heap) : Src → Prop
  | .lst a => h.IsListIter it a i
  | .tup a => h.IsTupleIter it a i
  | .txt z => h.IsStrIter it (strIterType z) z t i
def ob (t : Tok) : Src → Obj
  | .lst a => { cls := .type "list_iterator", data := .fields #[.ref a, .int 0 0] }
  | .tup a => { cls := .type "tuple_iterator", data := .fields #[.ref a, .int 0 0] }
  | .txt z => { cls := .type (strIterType z), data := .fields #[.str z t, .int 0 0] }
theorem first {it : Addr} {t : Tok} {h : Heap} : ∀ {S : Src}, h.get? it = some (S.ob t) → S.Iter it t 0 h
  | .lst _, e => ⟨_, e, rfl, rfl⟩
  | .tup _, e => ⟨_, e, rfl, rfl⟩
  | .txt _, e => ⟨_, e, rfl, rfl⟩
theorem obj {it : Addr} {t : Tok} {i : Nat} {h : Heap} : ∀ {S : Src}, S.Iter it t i h → ∃ o, h.get? it = some o ∧ ∀ v, o.data ≠ .cell v
  | .lst _, ⟨o, e, _, d⟩ => ⟨o, e, fun v q => by rw [d] at q; cases q⟩
  | .tup _, ⟨o, e, _, d⟩ => ⟨o, e, fun v q => by rw [d] at q; cases q⟩
  | .txt _, ⟨o, e, _, d⟩ => ⟨o, e, fun v q => by rw [d] at q; cases q⟩
theorem keep {it : Addr} {t : Tok} {i : Nat} {h h' : Heap} (k : ∀ o, h.get? it = some o → h'.get? it = some o) : ∀ {S : Src}, S.Iter it t i h → S.Iter it t i h'
  | .lst _, ⟨o, e, r⟩ => ⟨o, k o e, r⟩
  | .tup _, ⟨o, e, r⟩ => ⟨o, k o e, r⟩
  | .txt _, ⟨o, e, r⟩ => ⟨o, k o e, r⟩
section
variable {X : Cx} {pins : List (Addr × Obj)} {σ : L2.St} {H : Hp} {s : Shared} {xs ys : List V}
theorem inj (I : Inv X pins σ H s) : ∀ {S : Src}, S.At X.K H xs → S.At X.K H ys → xs = ys
  | .lst _, a, b => I.list_inj a b
  | .tup _, a, b => I.tuple_inj a b
  | .txt _, a, b => a.trans b.symm
theorem alive (I : Inv X pins σ H s) : ∀ {S : Src}, S.At X.K H xs → ∀ a ∈ S.ad, a < s.heap.objs.size
  | .lst a, q, b, hb => by
    obtain ⟨its, _, p, _⟩ := I.list q
    have e : b = a := by simpa [ad] using hb
    subst e
    exact p.lt
  | .tup a, q, b, hb => by
    obtain ⟨its, _, ⟨o, e1, _⟩, _⟩ := I.tuple q
    have e : b = a := by simpa [ad] using hb
    subst e
    exact Heap.lt_size e1
  | .txt z, q, b, hb => by simp [ad] at hb
theorem draws (hc : X.calm = true) (I : Inv X pins σ H s) (it : Addr) (t : Tok) : ∀ {S : Src}, S.At X.K H xs → it ∉ S.ad → ∃ (P : Nat → Value → Prop) (G : Nat → Heap → Prop), Draws X.prog X.w X.A.in1 it (it :: S.ad) xs.length P G ∧
    (∀ i, S.Iter it t i s.heap → G i s.heap) ∧ (∀ i h, G i h → S.Iter it t i h) ∧ ∀ k u, P k u → ∃ x, xs[k]? = some x ∧ RelV x u
  | .lst a, q, hn => by
    have hh : X.A.in1.handled = none := I.ok.hd hc
    obtain ⟨its, rv, p, _⟩ := I.list q
    have e := rv.length
    refine ⟨fun i v => its.toArray[i]? = some v, fun i h => h.IsListIter it a i ∧ h.IsList a its.toArray, by rw [e]; exact Draws.list hh it a (fun z => hn (by rw [ad, z]; simp)) its.toArray, fun i h => ⟨h, p.isList⟩, fun i h z => z.1, fun k u z => ?_⟩
    have z' : its[k]? = some u := by simpa using z
    have hk : k < xs.length := by rw [e]; exact (List.getElem?_eq_some_iff.mp z').1
    obtain ⟨u', e1, e2⟩ := rv.get (List.getElem?_eq_getElem hk)
    rw [z'] at e1
    cases e1
    exact ⟨_, List.getElem?_eq_getElem hk, e2⟩
  | .tup a, q, hn => by
    have hh : X.A.in1.handled = none := I.ok.hd hc
    obtain ⟨its, rv, p, _⟩ := I.tuple q
    have e := rv.length
    refine ⟨fun i v => its.toArray[i]? = some v, fun i h => h.IsTupleIter it a i ∧ h.IsTuple a its.toArray, by rw [e]; exact DLZ.Draws.tuple hh it a (fun z => hn (by rw [ad, z]; simp)) its.toArray, fun i h => ⟨h, p⟩, fun i h z => z.1, fun k u z => ?_⟩
    have z' : its[k]? = some u := by simpa using z
    have hk : k < xs.length := by rw [e]; exact (List.getElem?_eq_some_iff.mp z').1
    obtain ⟨u', e1, e2⟩ := rv.get (List.getElem?_eq_getElem hk)
    rw [z'] at e1
    cases e1
    exact ⟨_, List.getElem?_eq_getElem hk, e2⟩
  | .txt z, q, hn => by
    have hh : X.A.in1.handled = none := I.ok.hd hc
    have q : xs = z.cps.toList.map fun c => V.str ⟨#[c]⟩ := q
    have e : xs.length = z.cps.size := by rw [q]; simp
    have fin : ∀ k u, (∃ c t, z.cps[k]? = some c ∧ u = Value.str ⟨#[c]⟩ t) → ∃ x, xs[k]? = some x ∧ RelV x u := fun k u hu => by
      obtain ⟨c, t, e1, e2⟩ := hu
      refine ⟨.str ⟨#[c]⟩, ?_, ⟨t, e2⟩⟩
      rw [q, List.getElem?_map, Array.getElem?_toList, e1]
      rfl
    cases ha : z.cps.all (· < 128) with
    | true =>
      have et : strIterType z = "str_ascii_iterator" := by unfold strIterType; rw [ha]; rfl
      exact ⟨_, _, by rw [e]; exact Draws.strAscii hh it z t, fun i h => by have h : s.heap.IsStrIter it (strIterType z) z t i := h; rw [et] at h; exact h, fun i h g => by show h.IsStrIter it (strIterType z) z t i; rw [et]; exact g, fin⟩
    | false =>
      have et : strIterType z = "str_iterator" := by unfold strIterType; rw [ha]; rfl
      exact ⟨_, _, by rw [e]; exact Draws.strWide hh it z t, fun i h => by have h : s.heap.IsStrIter it (strIterType z) z t i := h; rw [et] at h; exact h, fun i h g => by show h.IsStrIter it (strIterType z) z t i; rw [et]; exact g, fin⟩
theorem iters (I : Inv X pins σ H s) {u : Value} : ∀ {S : Src}, S.At X.K H xs → RelV S.v u → ∃ (t : Tok) (C : Heap → Prop), Iters u C (S.ob t) ∧ C s.heap ∧ ∀ (h : Heap) (o : Obj), C h → C (h.push o)
  | .lst a, q, r => by
    obtain rfl : u = Value.ref a := r
    obtain ⟨its, rv, p, _⟩ := I.list q
    exact ⟨0, _, iters_list a its.toArray, p.isList, fun h o z => z.at fun _ e => Heap.get?_push_of_some _ e⟩
  | .tup a, q, r => by
    obtain rfl : u = Value.ref a := r
    obtain ⟨its, rv, p, _⟩ := I.tuple q
    exact ⟨0, _, iters_tuple a its.toArray, p, fun h o ⟨x, e, d⟩ => ⟨x, Heap.get?_push_of_some _ e, d⟩⟩
  | .txt z, q, r => by
    obtain ⟨t, rfl⟩ : ∃ t, u = Value.str z t := r
    exact ⟨t, _, iters_str z t, trivial, fun _ _ _ => trivial⟩
end
theorem ob_live {t : Tok} : ∀ {S : Src}, (S.ob t).isFreed = false
  | .lst _ => rfl
  | .tup _ => rfl
  | .txt _ => rfl
end Src
def ItZ (K : PySem.W.Frag) (a b : Src) : It :=
  ⟨fun i H => ∃ (xs ys : List V) (x y : V), a.At K H xs ∧ b.At K H ys ∧ xs[i]? = some x ∧ ys[i]? = some y,
    fun i H v H' => ∃ T x y, v = .ref T ∧ H T = none ∧ H' = upd H T (.tup [x, y]) ∧ (∀ xs, a.At K H xs → xs[i]? = some x) ∧ ∀ ys, b.At K H ys → ys[i]? = some y,
    fun i H => ∃ xs ys : List V, a.At K H xs ∧ b.At K H ys ∧ (i = xs.length ∨ (i < xs.length ∧ i = ys.length))⟩
theorem turn_zipS {P : Program} {w : World} {K : PySem.W.Frag} {elts : List Expr} {kk : Nat} {tpos : Pos} {a b : Src} {t1 t2 : Tok} {z TI TO i1 i2 : Addr} (D : Apart z TI TO i1 i2 (i1 :: a.ad) (i2 :: b.ad)) (n1 : i1 ∉ a.ad) (n2 : i2 ∉ b.ad) :
    Turn P w K (.Tuple elts kk tpos) (ItZ K a b) [z, TI, TO, i1, i2] z (fun i h => IsZip h z TI TO .none ∧ IsPair h TI (.ref i1) (.ref i2) ∧ (∃ x y, IsPair h TO x y) ∧ a.Iter i1 t1 i h ∧ b.Iter i2 t2 i h) where
  mem := by simp
  obj := fun i h st c hc => by
    obtain ⟨hz, hTI, ⟨x, y, hTO⟩, s1, s2⟩ := st
    have e' : c = z ∨ c = TI ∨ c = TO ∨ c = i1 ∨ c = i2 := by simpa using hc
    rcases e' with q | q | q | q | q
    · subst q; exact ⟨_, hz, fun v q => nomatch q⟩
    · subst q; exact ⟨_, hTI, fun v q => nomatch q⟩
    · subst q; exact ⟨_, hTO, fun v q => nomatch q⟩
    · subst q; exact Src.obj s1
    · subst q; exact Src.obj s2
  keep := fun i h h' st k => by
    obtain ⟨hz, hTI, ⟨x, y, hTO⟩, s1, s2⟩ := st
    exact ⟨k z (by simp) _ hz, k TI (by simp) _ hTI, ⟨x, y, k TO (by simp) _ hTO⟩, Src.keep (k i1 (by simp)) s1, Src.keep (k i2 (by simp)) s2⟩
  item := by
    intro X hP hw hK hc i pins s σ H E I hf st hg
    subst hP hw hK
    obtain ⟨hz, hTI, ⟨x0, y0, hTO⟩, s1, s2⟩ := st
    obtain ⟨xs, ys, x, y, hqx, hqy, hx, hy⟩ := hg
    obtain ⟨P1, G1, D1, g1, k1, r1⟩ := Src.draws hc I i1 t1 hqx n1
    obtain ⟨P2, G2, D2, g2, k2, r2⟩ := Src.draws hc I i2 t2 hqy n2
    have zl : z < s.heap.objs.size := Heap.lt_size hz
    refine pyNext_zipG_item D D1 D2 hz hTI hTO (g1 i s1) (g2 i s2) (List.getElem?_eq_some_iff.mp hx).1 (List.getElem?_eq_some_iff.mp hy).1 fun u u2 h' tk p1 p2 z' TO' f1 f2 hT hsz hk => ?_
    refine ⟨_, rfl, wpAny_letOwnedTupleGo_zip (s := { s with heap := h', toks := tk }) z' fun h'' z'' sb => ?_⟩
    obtain ⟨x', ex, rx⟩ := r1 i u p1
    obtain ⟨y', ey, ry⟩ := r2 i u2 p2
    rw [hx] at ex
    rw [hy] at ey
    cases ex
    cases ey
    have hT2 : h''.get? s.heap.objs.size = some { cls := .type "tuple", data := .seq #[u, u2] } := (sb.2 _ (Nat.ne_of_gt zl)).trans hT
    have new : ObjOk X.prog X.w (upd H s.heap.objs.size (.tup [x, y])) h'' s.heap.objs.size (.tup [x, y]) :=
      ⟨by show 2 ≤ sizeLine; decide, [u, u2], .cons rx (.cons ry .nil), ⟨_, hT2, rfl, _, rfl⟩⟩
    have I1 : Inv X pins σ (upd H s.heap.objs.size (.tup [x, y])) { s with heap := h'', toks := tk } := by
      refine I.turnedNew (t' := tk) (ch := [z, TI, TO, i1, i2]) (fun c o hb q => ?_) hf (Nat.le_refl _) new
      have nb : c ≠ z ∧ c ≠ TI ∧ c ≠ TO ∧ c ≠ i1 ∧ c ≠ i2 := by simpa using hb
      exact (sb.2 c nb.1).trans (hk c o nb.1 nb.2.2.1 nb.2.2.2.1 nb.2.2.2.2 q)
    refine ⟨.ref s.heap.objs.size, _, I1, rfl, ⟨_, x, y, rfl, I.hok.fresh (Nat.le_refl _), rfl, fun l hl => by rw [Src.inj I hl hqx]; exact hx, fun l hl => by rw [Src.inj I hl hqy]; exact hy⟩, ⟨z'', ?_, ⟨u, u2, ?_⟩, ?_, ?_⟩, fun c hcm => ?_⟩
    · exact (sb.2 _ D.TIz).trans (hk _ _ D.TIz D.TITO D.TIi1 D.TIi2 hTI)
    · exact (sb.2 _ D.TOz).trans TO'
    · exact Src.keep (fun o q => (sb.2 _ D.i1z).trans q) (k1 _ _ f1)
    · exact Src.keep (fun o q => (sb.2 _ D.i2z).trans q) (k2 _ _ f2)
    · have hlt : c < s.heap.objs.size := by
        have e' : c = z ∨ c = TI ∨ c = TO ∨ c = i1 ∨ c = i2 := by simpa using hcm
        rcases e' with q | q | q | q | q
        · subst q; exact zl
        · subst q; exact Heap.lt_size hTI
        · subst q; exact Heap.lt_size hTO
        · subst q; obtain ⟨_, e1, _⟩ := Src.obj s1; exact Heap.lt_size e1
        · subst q; obtain ⟨_, e1, _⟩ := Src.obj s2; exact Heap.lt_size e1
      rw [upd_ne (Nat.ne_of_lt hlt)]
      exact (hf c hcm).1
  done := by
    intro X hP hw hK hc i pins s σ H E I hf st hg
    subst hP hw hK
    obtain ⟨hz, hTI, ⟨x0, y0, hTO⟩, s1, s2⟩ := st
    obtain ⟨xs, ys, hqx, hqy, hend⟩ := hg
    obtain ⟨P1, G1, D1, g1, k1, r1⟩ := Src.draws hc I i1 t1 hqx n1
    obtain ⟨P2, G2, D2, g2, k2, r2⟩ := Src.draws hc I i2 t2 hqy n2
    refine pyNext_zipG_end D D1 D2 hz hTI hTO (g1 i s1) (g2 i s2) hend fun h' tk hk => ⟨rfl, I.turnedL (t' := tk) (ch := [z, TI, TO, i1, i2]) (fun c o hb q => ?_) hf⟩
    have nb : c ≠ z ∧ c ≠ TI ∧ c ≠ TO ∧ c ≠ i1 ∧ c ≠ i2 := by simpa using hb
    exact hk c o nb.1 nb.2.2.1 nb.2.2.2.1 nb.2.2.2.2 q
  self := fun A i s Q E st h => wpAny_pyIter_zip st.1 h
theorem out_of {l : List Addr} {n m k : Nat} (h : ∀ c ∈ l, c < n) (h1 : m ≠ k) (h2 : n ≤ m) : (show Addr from m) ∉ (show Addr from k) :: l := fun q => by
  rcases List.mem_cons.mp q with z | z
  · exact h1 z
  · exact Nat.lt_irrefl _ (Nat.lt_of_lt_of_le (h _ z) h2)
theorem apart_new {a b : Src} {n : Nat} (ha : ∀ c ∈ a.ad, c < n) (hb : ∀ c ∈ b.ad, c < n) : Apart (n + 4) (n + 2) (n + 3) n (n + 1) (n :: a.ad) ((n + 1) :: b.ad) where
  TIz := show (n + 2 : Nat) ≠ n + 4 by omega
  TOz := show (n + 3 : Nat) ≠ n + 4 by omega
  i1z := show (n : Nat) ≠ n + 4 by omega
  i2z := show (n + 1 : Nat) ≠ n + 4 by omega
  TITO := show (n + 2 : Nat) ≠ n + 3 by omega
  TIi1 := show (n + 2 : Nat) ≠ n by omega
  TIi2 := show (n + 2 : Nat) ≠ n + 1 by omega
  TOi1 := show (n + 3 : Nat) ≠ n by omega
  TOi2 := show (n + 3 : Nat) ≠ n + 1 by omega
  i12 := show (n : Nat) ≠ n + 1 by omega
  z1 := out_of ha (by omega) (by omega)
  z2 := out_of hb (by omega) (by omega)
  T1 := out_of ha (by omega) (by omega)
  T2 := out_of hb (by omega) (by omega)
  i21 := out_of ha (by omega) (by omega)
  i1f := out_of hb (by omega) (by omega)
def iZipS (K : PySem.W.Frag) (ta : TA) : TI := fun σ H R => ta σ H fun vs H1 => ∃ (a b : Src) (xs ys : List V), vs = [a.v, b.v] ∧ a.At K H1 xs ∧ b.At K H1 ys ∧ R (ItZ K a b) H1
theorem pi_zipS {X : Cx} {e e2 : Expr} {ta : TA} {p pos tpos : Pos} {elts : List Expr} {kk : Nat} (hg : Gl X "zip") (hm : X.mg "zip" = none) (ha : PA X [e, e2] ta)
    (hs : starEach [e, e2] X.env = (false, eval e X.env) :: starEach [e2] X.env := by rfl) (hpl : (backTo pos (starEach [e2] X.env)).any (·.1) = false := by rfl) :
    PI X (.Tuple elts kk tpos) (.Call (.Name "zip" p) [e, e2] [] pos) (iZipS X.K ta) := by
  refine ⟨fun pins s σ H R I h => ?_⟩
  refine Call_ (ld_blt I hg hm PyProof.Rows.boot_zip (PyProof.Rows.callWith_type1 (thn (ha.run pos pins s σ H _ I h) fun us s1 ⟨vs, H1, I1, r1, q1⟩ => ?_) hs hpl))
  obtain ⟨a, b, xs, ys, ex, hqx, hqy, q⟩ := q1
  subst ex
  cases r1 with
  | cons ra rr =>
    cases rr with
    | cons rb rr =>
      cases rr
      obtain ⟨t1, C1, w1, c1, _⟩ := Src.iters I1 hqx ra
      obtain ⟨t2, C2, w2, c2, m2⟩ := Src.iters I1 hqy rb
      have la := Src.alive I1 hqx
      have lb := Src.alive I1 hqy
      refine call_zipG w1 w2 (fun h z => m2 h _ z) c1 c2 Src.ob_live Src.ob_live fun h' hz hTI hTO g1 g2 hsz hk => wpAny_pyIter_zip hz ?_
      have I2 : Inv X pins σ H1 { s1 with heap := h' } := I1.kept (t' := s1.toks) hk
      refine ⟨s1.heap.objs.size + 4, [s1.heap.objs.size + 4, s1.heap.objs.size + 2, s1.heap.objs.size + 3, s1.heap.objs.size, s1.heap.objs.size + 1], _, _, H1, rfl, I2, turn_zipS (t1 := t1) (t2 := t2) (apart_new la lb) (fun z => Nat.lt_irrefl _ (la _ z)) (fun z => Nat.lt_irrefl _ (Nat.lt_of_le_of_lt (Nat.le_succ _) (lb _ z))), ⟨hz, hTI, ⟨_, _, hTO⟩, Src.first g1, Src.first g2⟩, fun c hcm => ?_, q⟩
      have hle : s1.heap.objs.size ≤ c := by
        have e' : c = s1.heap.objs.size + 4 ∨ c = s1.heap.objs.size + 2 ∨ c = s1.heap.objs.size + 3 ∨ c = s1.heap.objs.size ∨ c = s1.heap.objs.size + 1 := by simpa using hcm
        rcases e' with z | z | z | z | z <;> rw [z]
        · exact Nat.le_add_right _ _
        · exact Nat.le_add_right _ _
        · exact Nat.le_add_right _ _
        · exact Nat.le_refl _
        · exact Nat.le_add_right _ _
      exact I1.fpOk hle (I1.hok.fresh hle)
def seqD : D → Option (List D)
  | .lst ds => some ds
  | .tup ds => some ds
  | .str z => some (charsD z)
  | _ => none
theorem seq_src {T : Tb} {F : Hp} {v : V} {d : D} {ds : List D} (h : Rp T F v d) (e : seqD d = some ds) : ∃ (a : Src) (vs : List V), a.v = v ∧ (∀ H, Le F H → a.At T.K H vs) ∧ RpAll T F vs ds := by
  cases h with
  | lst h1 h2 =>
    cases e
    exact ⟨.lst _, _, rfl, fun H le => SqL.of (le _ _ h1), h2⟩
  | tup h1 h2 =>
    cases e
    exact ⟨.tup _, _, rfl, fun H le => le.t h1, h2⟩
  | str z =>
    cases e
    refine ⟨.txt z, _, rfl, fun H le => rfl, ?_⟩
    unfold charsD
    generalize z.cps.toList = l
    induction l with
    | nil => exact .nil
    | cons c r ih => exact .cons (.str _) ih
  | _ => cases e
def zipD : List D → List D → List D
  | x :: r, y :: s => .tup [x, y] :: zipD r s
  | _, _ => []
theorem zipD_get : ∀ (xs ys : List D) (i : Nat) (d : D), (zipD xs ys)[i]? = some d → ∃ x y, xs[i]? = some x ∧ ys[i]? = some y ∧ d = .tup [x, y]
  | [], _, _, _, e => by simp [zipD] at e
  | _ :: _, [], _, _, e => by simp [zipD] at e
  | x :: r, y :: s, 0, d, e => by
    have e2 : some (D.tup [x, y]) = some d := e
    cases e2
    exact ⟨x, y, rfl, rfl, rfl⟩
  | x :: r, y :: s, i + 1, d, e => zipD_get r s i d e
theorem zipD_length : ∀ (xs ys : List D), (zipD xs ys).length = xs.length ∨ ((zipD xs ys).length < xs.length ∧ (zipD xs ys).length = ys.length)
  | [], _ => .inl (by simp [zipD])
  | _ :: _, [] => .inr ⟨by simp [zipD], by simp [zipD]⟩
  | x :: r, y :: s => by
    rcases zipD_length r s with h | ⟨h1, h2⟩
    · exact .inl (by simp [zipD, h])
    · exact .inr ⟨by simp [zipD]; omega, by simp [zipD]; omega⟩
theorem it_zip {T : Tb} {F : Hp} {a b : Src} {vs us : List V} {xs ys : List D} (ha : ∀ H, Le F H → a.At T.K H vs) (hb : ∀ H, Le F H → b.At T.K H us) (r1 : RpAll T F vs xs) (r2 : RpAll T F us ys) : ItD T F (ItZ T.K a b) (zipD xs ys) := fun H le i => by
  refine ⟨fun d e => ?_, fun hl => ⟨vs, us, ha H le, hb H le, ?_⟩⟩
  · obtain ⟨x, y, e1, e2, e3⟩ := zipD_get xs ys i d e
    obtain ⟨v1, v2, v3⟩ := r1.get e1
    obtain ⟨u1, u2, u3⟩ := r2.get e2
    refine ⟨⟨vs, us, v1, u1, ha H le, hb H le, v2, u2⟩, fun p H' hy => .inr ?_⟩
    obtain ⟨t, x', y', z1, z2, z3, z4, z5⟩ := hy
    have z6 := z4 vs (ha H le)
    have z7 := z5 us (hb H le)
    rw [v2] at z6
    rw [u2] at z7
    cases z6
    cases z7
    exact ⟨t, _, _, z2, z3, z1, e3, .cons v3 (.one u3)⟩
  · rw [r1.length, r2.length, hl]
    exact zipD_length xs ys
def iZp (l : M (List D)) : M (List D) := fun env => (l env).bind fun ds e => match ds with
  | [a, b] => (match seqD a, seqD b with
    | some xs, some ys => .ok (zipD xs ys) e
    | _, _ => .bad)
  | _ => .bad
section
variable {X : Cx} {S : Gd} {W : WX} {e e2 : Expr} {elts : List Expr} {kk : Nat} {pos p tpos : Pos} {l : M (List D)}
theorem di_zip (hg : Gl X "zip") (hm : X.mg "zip" = none) (ha : PA X [e, e2] (tL S W l)) (hK : X.K = S.T.K := by rfl)
    (hs : starEach [e, e2] X.env = (false, eval e X.env) :: starEach [e2] X.env := by rfl) (hpl : (backTo pos (starEach [e2] X.env)).any (·.1) = false := by rfl) :
    PI X (.Tuple elts kk tpos) (.Call (.Name "zip" p) [e, e2] [] pos) (tI S W (iZp l)) :=
  PI.imp (pi_zipS hg hm ha hs hpl) fun σ H R ⟨F, env, ad, sr, p⟩ => ⟨F, env, ad, sr, p.bind.imp fun ds e1 H1 F1 ad1 le1 sr1 q vs rs => by
    rw [hK]
    have q2 := q.2
    split at q2
    · rename_i a b
      cases rs with
      | cons h t =>
        cases t with
        | cons h2 t2 =>
          cases t2
          split at q2
          · rename_i xs ys ea eb
            obtain ⟨A, us, z1, z2, z3⟩ := seq_src h ea
            obtain ⟨B, us2, y1, y2, y3⟩ := seq_src h2 eb
            exact ⟨A, B, us, us2, by rw [z1, y1], z2 H1 sr1.sub, y2 H1 sr1.sub, q2 H1 F1 ad1 (Le.refl F1) sr1 _ (it_zip z2 y2 z3 y3)⟩
          · exact q2.elim
    · exact q2.elim⟩
end
end DL
set_option Elab.async false
set_option linter.all false
set_option maxRecDepth 100000
set_option maxHeartbeats 2000000
namespace DL
open PySem PySem.Spec PyProof.Rows L2 L2H HotX
end DL
set_option Elab.async false
set_option linter.all false
set_option maxRecDepth 100000
set_option maxHeartbeats 2000000
namespace DL
open PySem PySem.Spec PyProof.Rows L2 L2H HotX LamX
inductive Grown (P : Addr) (H : Hp) : Hp → Prop
  | same : Grown P H H
  | more {ps ps' : Array Value} {c : Addr} {q : Str} : H P = some (.tbl ps) → H c = none → Grown P H (upd (upd H P (.tbl ps')) c (CodeO c q))
theorem SR.grown {S : Gd} {σ : L2.St} {H H1 F : Hp} {env : Env} {ad : Nat → List Addr} {P : Addr} (h : SR S σ H F env ad) (g : Grown P H H1) (ht : Tabs S.T.tabs H1) : SR S σ H1 F env ad := by
  cases g with
  | same => exact h
  | more hP hc =>
    rename_i ps ps' c q
    have at_ : ∀ a u, H a = some u → NoTbl u → upd (upd H P (.tbl ps')) c (CodeO c q) a = some u := fun a u e n => by
      rw [upd_ne (ne_of_none e hc), upd_ne fun z => by rw [z, hP] at e; cases e; exact n ps rfl]
      exact e
    refine ⟨h.len, fun a u e => at_ a u (h.sub a u e) (h.notb a u e), fun i s e => (h.at_ i s e).mono (Le.refl F) fun a ha => ?_, h.out, h.dis, h.mine, fun a u na e nt => at_ a u (h.keep a u na e nt) nt, ⟨ht, fun a us e => ?_⟩, h.notb, h.old, h.le0, fun a e => h.dom a ?_, h.fix⟩
    · obtain ⟨u, e1, e2⟩ := h.kind ha
      rw [e1]
      exact at_ a u e1 e2.notb
    · trivial
    · by_cases z : a = c
      · rw [z, upd_same] at e
        cases e
      · rw [upd_ne z] at e
        by_cases y : a = P
        · rw [y, upd_same] at e
          cases e
        · rw [upd_ne y] at e
          exact e
section
variable {X : Cx} {pins : List (Addr × Obj)} {σ : L2.St} {H : Hp} {s : Shared}
theorem lam_make {T : List (Addr × Str)} {c P : Addr} {params : Arguments} {body : Expr} {scope : Scope} {pos : Pos} {E Q : Value → Shared → Prop} (I : Inv X pins σ H s) (TB : TabB X.base X.mg c P) (hcode : X.env.code = .ref c) (hm : (P, X.env.qual ++ "<lambda>") ∈ T) (hu : ∀ p ∈ T, p.1 = P → p.2 = X.env.qual ++ "<lambda>")
    (hT : Tabs T H) (hdef : defaultsOf params X.env = ([], [])) (hfree : ∀ y ∈ scope.names, y.2 = .free → ∃ c, X.env.cells.lookup y.1 = some c)
    (h : ∀ (f c' : Addr) (pm ctv : Value) (H1 : Hp) (s' : Shared), Inv X pins σ H1 s' → Grown P H H1 → Tabs T H1 → s'.heap.get? f = some (PySem.W.kla_obj "<lambda>" (X.env.qual ++ "<lambda>") params body scope (cloFrom X.env.cells scope.names []) pm c' ctv) → H1 f = none → f ∉ frs X.stack →
      H1 c' = some (CodeO c' (X.env.qual ++ "<lambda>")) → Q (.ref f) s') : wpAny (model X.prog X.w) X.A (eval (.Lambda params body scope pos) X.env) Q E s := by
  obtain ⟨ps, hP, ht, ha⟩ := hT _ hm
  refine PySem.W.kla_eval hdef ?_
  have bP : s.heap.BuiltinsAt X.mg P := TB.bm.keeps I.bk
  have hP' : s.heap.get? P = some { cls := .none, data := .fields ps } := I.hok P _ hP
  have nofr : ∀ f, s.heap.objs.size ≤ f → f ∉ frs X.stack := fun f hf z => (List.mem_cons.mp (I.stkSub _ z)).elim (fun e => Nat.lt_irrefl _ (Nat.lt_of_lt_of_le (show f < s.heap.objs.size from e ▸ I.lt) hf)) (I.nofs hf)
  cases hc : codeAmong pos ps.toList with
  | some cv =>
    obtain ⟨c', e, hco⟩ := ha pos cv hc
    subst e
    exact PySem.W.kla_makeFunctionHit (mg := X.mg) (c := c) (P := P) (ps := ps) (closure_ok hfree) I.ok.glob (I.mod.glob.keeps I.bk) hcode (TB.code.keeps I.bk) hP' ht hc bP fun ctv h' tk hx hsz =>
      h h'.objs.size c' _ ctv H _ (I.kept fun b o e => Heap.get?_push_of_some _ (hx b o e)) .same hT (Heap.get?_push_size _ rfl) (I.hok.fresh hsz) (nofr _ hsz) hco
  | none =>
    refine PySem.W.kla_makeFunction (mg := X.mg) (c := c) (P := P) (ps := ps) (closure_ok hfree) I.ok.glob (I.mod.glob.keeps I.bk) hcode (TB.code.keeps I.bk) hP' ht hc TB.gP bP fun c' ctv h' tk hx hge hlt hrec htb => ?_
    obtain ⟨c2, oc, vs, t, e2, hoc, hd, hv⟩ := hrec
    cases e2
    have hsz : s.heap.objs.size ≤ h'.objs.size := Nat.le_trans hge (Nat.le_of_lt hlt)
    have nC : H c' = none := I.hok.fresh hge
    have I1 := inv_table (t' := tk) (more := #[rawInt pos.line, rawInt pos.col, .ref c']) (h' := h'.push (PySem.W.kla_obj "<lambda>" (X.env.qual ++ "<lambda>") params body scope (cloFrom X.env.cells scope.names []) ((X.mg "__name__").getD .none) c' ctv)) I hP
      (fun b o hb e => Heap.get?_push_of_some _ (hx b o hb e)) (Heap.get?_push_of_some _ htb) hge ⟨oc, vs, t, Heap.get?_push_of_some _ hoc, hd, hv⟩
    have eL : (ps ++ #[rawInt pos.line, rawInt pos.col, .ref c']).toList = ps.toList ++ [rawInt pos.line, rawInt pos.col, .ref c'] := by simp
    have kp : ∀ b o, H b = some o → (∀ q, o ≠ .tbl q) → upd (upd H P (.tbl (ps ++ #[rawInt pos.line, rawInt pos.col, .ref c']))) c' (CodeO c' (X.env.qual ++ "<lambda>")) b = some o := fun b o e n => by
      have nP : b ≠ P := fun z => n ps (Option.some.inj (e.symm.trans (by rw [z]; exact hP)))
      rw [upd_ne (ne_of_none e nC), upd_ne nP]
      exact e
    refine h h'.objs.size c' _ ctv _ _ I1 (.more hP nC) (fun p hp => ?_) (Heap.get?_push_size _ rfl) ?_ (nofr _ hsz) upd_same
    · by_cases hb : p.1 = P
      · rw [hu p hp hb, hb]
        refine ⟨_, by rw [upd_ne (ne_of_none hP nC), upd_same], by rw [eL]; exact PySem.TriplesOk_snoc _ _ _ _ ht, fun p' cv hcv => ?_⟩
        rw [eL] at hcv
        rcases among_app _ ht hcv with z | z
        · obtain ⟨c0, e1, e2⟩ := ha p' cv z
          exact ⟨c0, e1, kp _ _ e2 codeO_ne⟩
        · exact ⟨c', z, upd_same⟩
      · obtain ⟨ps', a1, a2, a3⟩ := hT p hp
        refine ⟨ps', by rw [upd_ne (ne_of_none a1 nC), upd_ne hb]; exact a1, a2, fun p' cv hcv => ?_⟩
        obtain ⟨c0, e1, e2⟩ := a3 p' cv hcv
        exact ⟨c0, e1, kp _ _ e2 codeO_ne⟩
    · rw [upd_ne (Nat.ne_of_gt hlt), upd_ne (Nat.ne_of_gt (Nat.lt_of_lt_of_le (Heap.lt_size hP') hsz))]
      exact I.hok.fresh hsz
end
abbrev lamN (X : Cx) (A : Around) (outer : List PySem.Env) (s : Shared) (H : Hp) (E : XK) (scope : Scope) (f c' : Addr) : Cx :=
  (lamCx X A outer s H E scope f c').tr [] fun e s' => wpAny (model X.prog X.w) (A.deeper (lamEnv X scope s.heap.objs.size f c')) (leaving (lamEnv X scope s.heap.objs.size f c') e) (fun _ s'' => L2N.CX X.prog X.w outer H s E e s'') (fun e' s'' => L2N.CX X.prog X.w outer H s E e' s'') s'
theorem lamN_takes {X : Cx} {A : Around} {outer : List PySem.Env} {s : Shared} {H : Hp} {E : XK} {scope : Scope} {f c' : Addr} : L2N.Takes (lamN X A outer s H E scope f c') (wOf E) := L2N.takes_of rfl rfl rfl rfl
section
variable {X : Cx} {pins : List (Addr × Obj)} {σ : L2.St} {H : Hp} {s : Shared}
theorem lam_act {CXg : CXT} {Eg : XK} {Ng : List Str} {qg : Str} {sg : Scope} {g f c' : Addr} {cdg pm ctv : Value} {params : Arguments} {body : Expr} {scope : Scope} {k i : Nat} {a : Str} {pn : List (Addr × Obj)} {xe : Value → Shared → Prop} {W : WX} {E : XK} {tb : TE} {p1 p2 : Pos}
    (I : Inv X pins σ H s) (L : LamS X.env.scope scope) (hf : s.heap.get? f = some (PySem.W.kla_obj "<lambda>" (X.env.qual ++ "<lambda>") params body scope (cloFrom X.env.cells scope.names []) pm c' ctv)) (hfn : H f = none) (hfr : f ∉ frs X.stack)
    (hbind : bindArgs (PySem.W.kla_fn "<lambda>" (X.env.qual ++ "<lambda>") params body scope (cloFrom X.env.cells scope.names []) pm (.ref c') ctv) ⟨[], []⟩ = pure [])
    (tk : L2N.Takes ((cxOf CXg X.prog X.w X.K X.mg X.base Ng qg sg g cdg X.A X.stack s H Eg).tr pn xe) W) (hW : ∀ cls d σ' H', E cls d H' → W cls d σ' H') (hr : Room (k + 1) (X.A.deeper (envOfC qg sg s.heap.objs.size g cdg)))
    (hbody : ∀ (A : Around) (outer : List PySem.Env) (s : Shared) (H : Hp), Room k (A.deeper (lamEnv X scope s.heap.objs.size f c')) → PE (lamN X A outer s H E scope f c') body tb)
    (hN : Ng[i]? = some a) (hv : Vis sg a) (hd : (a == ("__debug__" : Str)) = false) (hcd : (a == ("__classdict__" : Str)) = false) :
    PE ((cxOf CXg X.prog X.w X.K X.mg X.base Ng qg sg g cdg X.A X.stack s H Eg).tr pn xe) (.Call (.Name a p1) [] [] p2) (fun σZ HZ Q => σZ[i]? = some (some (.ref f)) ∧ HZ c' = some (CodeO c' (X.env.qual ++ "<lambda>")) ∧ tb σ HZ Q) := by
  refine ⟨fun pinsZ sZ σZ HZ Q IZ ⟨hs, hc, ht⟩ => ?_⟩
  refine wpAny_Call_Name_kw (thn ((pe_var (pos := p1) (i := i) hN hv hd hcd).run pinsZ sZ σZ HZ (fun v H1 => v = .ref f ∧ H1 = HZ) IZ ⟨.ref f, hs, rfl, rfl⟩) fun u s1 ⟨v, H1, I1, r1, ev, eH⟩ => ?_)
  subst ev
  subst eH
  obtain rfl : u = Value.ref f := r1
  have of1 := I1.base.keep f _ hf hfn hfr (fun z => nomatch (show f ∈ ([] : List Addr) from z))
  refine PySem.W.callWith_F0 ⟨_, _, _, _, of1⟩ ?_
  obtain ⟨⟨oc, vs, t, hoc, hdc, hvc⟩, _, _⟩ := I1.hok c' _ hc
  have rc : codeAny (model X.prog X.w) (X.A.deeper (envOfC qg sg s.heap.objs.size g cdg)) (.call (.ref f) ⟨[], []⟩) (CR (L2N.CX X.prog X.w) (envOfC qg sg s.heap.objs.size g cdg :: X.stack) X.prog X.w H1 s1 Q E) s1 := by
    refine PySem.W.kla_callFunE hr.depth of1 rfl L.co L.gen rfl ⟨c', oc, vs, t, rfl, hoc, hdc, hvc⟩ ?_
    rw [hbind]
    refine wpAny_pure (wpAny_newFunctionEnv (fun y hy => (L.own y hy).2) (fun y hy => absurd hy (by simp)) (fun h₁ hns hsb => ⟨I1.nolimit.fresh _ hsb, ?_⟩) L.kind)
    have kp : ∀ b o, s1.heap.get? b = some o → h₁.get? b = some o := fun b o e => hsb.extBut b o (Nat.ne_of_lt (Heap.lt_size e)) (Heap.get?_push_of_some _ e)
    have J := lam_start2 (A := X.A.deeper (envOfC qg sg s.heap.objs.size g cdg)) (outer := envOfC qg sg s.heap.objs.size g cdg :: X.stack) (E := E) (f := f) (c' := c') (tk := s1.toks + ([] : List (Str × Value)).length) I L I1.env0 hr.hd I1.base hns kp
    have b := (hbody _ _ s1 H1 (hr.deeper _)).run [] _ _ H1 Q (J.toTry _) ht
    exact PySem.W.kla_codeExpr (wpAny_mono b (fun v s' ⟨w', H', J', rv, q⟩ => ⟨w', H', J'.os, J'.bare, J'.base, J'.hok, rv, q⟩) fun e s' hq => hq)
  refine wpAny_call (codeAny_mono rc fun r s' hq => ?_)
  cases r with
  | error e => exact L2N.passes_call tk hW pinsZ σZ H1 s1 e s' I1 hq
  | ok fl =>
    cases fl with
    | ret u => exact I1.after hq
    | next => exact hq.elim
    | brk => exact hq.elim
    | cont => exact hq.elim
end
end DL
set_option Elab.async false
set_option linter.all false
set_option maxRecDepth 100000
set_option maxHeartbeats 2000000
namespace DL
open PySem PySem.Spec PyProof.Rows L2 L2H HotX LamX
def Gives (X : Cx) (Ng : List Str) (x : Str) (sg : Scope) (g : Addr) (cdg : Value) (bg : List Stmt) (a : Str) (q : Str) (TT : (XK → Hp → VK → Prop) → Hp → VK → Prop) (k : Nat) : Prop :=
  ∀ (f c' : Addr) (s : Shared) (H : Hp) (Q : VK) (tl : XK → Hp → VK → Prop),
    (∀ (W : WX) (pn : List (Addr × Obj)) (xe : Value → Shared → Prop) (E : XK) (p1 p2 : Pos), L2N.Takes ((cxOf C8.CX0 X.prog X.w X.K X.mg X.base Ng x sg g cdg X.A X.stack s H C8.E0).tr pn xe) W → (∀ cls d σ' H', E cls d H' → W cls d σ' H') →
      PE ((cxOf C8.CX0 X.prog X.w X.K X.mg X.base Ng x sg g cdg X.A X.stack s H C8.E0).tr pn xe) (.Call (.Name a p1) [] [] p2) (fun σZ HZ Q => σZ[0]? = some (some (.ref f)) ∧ HZ c' = some (CodeO c' q) ∧ tl E HZ Q)) →
    Room k (X.A.deeper (envOfC x sg s.heap.objs.size g cdg)) → H c' = some (CodeO c' q) → TT tl H Q →
    ∃ t, PSs (cxOf C8.CX0 X.prog X.w X.K X.mg X.base Ng x sg g cdg X.A X.stack s H C8.E0).nox bg t ∧ t { nx := fun _ H' => Q .non H', rt := Q } (L2.start Ng [.ref f]) H
def tLamN (P : Addr) (T : List (Addr × Str)) (TT : (XK → Hp → VK → Prop) → Hp → VK → Prop) (t : XK → TE) : TE := fun σ H Q => Tabs T H ∧ ∀ H1, Grown P H H1 → Tabs T H1 → TT (fun E H' Q' => t E σ H' Q') H1 Q
section
variable {X : Cx}
theorem pe_lamN {T : List (Addr × Str)} {TT : (XK → Hp → VK → Prop) → Hp → VK → Prop} {x a : Str} {g c P : Addr} {k : Nat} {pg : Arguments} {bg : List Stmt} {sg : Scope} {fd : FuncData} {Ng : List Str} {params : Arguments} {body : Expr} {scope : Scope} {t : XK → TE} {p lpos pos : Pos}
    (F : FunD X.K x x pg bg sg [] [] g fd) (hg : Gl X x) (hm : X.mg x = some (.ref g)) (hb : L2.Binds X.K fd [a] []) (Sg : FnScope Ng [a] sg) (hNg : Ng[0]? = some a) (hva : Vis sg a) (hG : ∀ cdv, Gives X Ng x sg g cdv bg a (X.env.qual ++ "<lambda>") TT (k + 1))
    (TB : TabB X.base X.mg c P) (hcode : X.env.code = .ref c) (hmT : (P, X.env.qual ++ "<lambda>") ∈ T) (hu : ∀ p ∈ T, p.1 = P → p.2 = X.env.qual ++ "<lambda>") (hr : Room (k + 2) X.A) (L : LamS X.env.scope scope) (hdef : defaultsOf params X.env = ([], []))
    (hbind : ∀ (q : Str) (cl : List (Str × Addr)) (pm cv ctv : Value), bindArgs (PySem.W.kla_fn "<lambda>" q params body scope cl pm cv ctv) ⟨[], []⟩ = pure [])
    (hbody : ∀ (A : Around) (outer : List PySem.Env) (s : Shared) (H : Hp) (E : XK) (f c' : Addr), Room k (A.deeper (lamEnv X scope s.heap.objs.size f c')) → PE (lamN X A outer s H E scope f c') body (t E))
    (hdb : (x == ("__debug__" : Str)) = false := by decide) (hd : (a == ("__debug__" : Str)) = false := by decide) (hcd : (a == ("__classdict__" : Str)) = false := by decide) :
    PE X (.Call (.Name x p) [.Lambda params body scope lpos] [] pos) (tLamN P T TT t) := by
  refine ⟨fun pins s σ H Q I ⟨hT, h⟩ => ?_⟩
  obtain ⟨oc, od, dV, kV, doc, pm, an, cdv, ct, osl, rfl, lk, hcg, _, _⟩ := F.ex
  refine wpAny_Call_Name_kw (ld_glob I hg hm ?_ hdb)
  refine PySem.W.callWith_K (h₀ := X.base) I.ok.mod.kin F.kp ?_ (by rfl) (by rfl)
  show wpAny _ _ (spliced ((false, eval (.Lambda params body scope lpos) X.env) :: backTo pos (starEach [] X.env))) _ _ s
  refine Calls.spliced_cons (lam_make I TB hcode hmT hu hT hdef (L.has I.ok) fun f c' pm' ctv H1 s' I1 gr T1 hf hfn hfr hco => Calls.spliced_nil ⟨I1.kIn, ?_⟩)
  have rc : codeAny (model X.prog X.w) X.A (.call (.ref g) ⟨[.ref f], []⟩) (CR C8.CX0 X.stack X.prog X.w H1 s' Q C8.E0) s' := by
    refine run_ofS (N := Ng) (ps := [a]) (us := [.ref f]) (vs := [.ref f]) lk hcg Sg hr I1.env0 (hb s' [.ref f] I1.kIn rfl) (.cons rfl .nil) rfl fun hr' => ?_
    obtain ⟨t', ht', hq'⟩ := hG cdv f c' s' H1 Q (fun E H' Q' => t E σ H' Q') (fun W pn xe E p1 p2 tk hW => lam_act (i := 0) I1 L hf hfn hfr (hbind _ _ _ _ _) tk hW hr' (fun A outer s H hr2 => hbody A outer s H E f c' hr2) hNg hva hd hcd) hr' hco (h H1 gr T1)
    exact ⟨t', ht'.nox, hq'⟩
  refine wpAny_call (codeAny_mono rc fun r s2 hq => ?_)
  cases r with
  | error e => exact (show False from hq).elim
  | ok fl =>
    cases fl with
    | ret u => exact I1.after hq
    | next => exact hq.elim
    | brk => exact hq.elim
    | cont => exact hq.elim
end
end DL
set_option Elab.async false
set_option linter.all false
set_option maxRecDepth 100000
set_option maxHeartbeats 2000000
namespace DL
open PySem PySem.Spec PyProof.Rows L2 L2H HotX LamX
theorem takes0N {X : Cx} : L2N.Takes X (fun _ _ _ _ => False) := fun _ _ ⟨_, _, _, _, _, _, _, _, _, _, _, _, _, _, _, _, z⟩ => z.elim
end DL
set_option Elab.async false
set_option linter.all false
set_option maxRecDepth 100000
set_option maxHeartbeats 2000000
namespace DL
open PySem PySem.Spec PyProof.Rows L2 L2H HotX LamX
abbrev tbOf (K : PySem.W.Frag) (tabs : List (Addr × Str)) (w : World) : Tb := ⟨K, fun c => some (He.ga K c), fun c => some (He.ga K c), tabs, w⟩
theorem _root_.L2.Room.u65 {k : Nat} {A : Around} (r : Room k A) : A.units + 65 < cLine := by have := r.un; omega
section
variable {P : Program} {w : World} {T : Tb} {mg : Str → Option Value} {base : Heap} {x qual c m : Str} {params : Arguments} {body : List Stmt} {scope : Scope} {f : Addr} {fd : FuncData} {N ps : List Str} {k n : Nat} {mb : Env → Fl} {φ : Fn}
def Body (P : Program) (w : World) (T : Tb) (mg : Str → Option Value) (base : Heap) (N : List Str) (qual : Str) (scope : Scope) (f : Addr) (k : Nat) (body : List Stmt) (mb : Env → Fl) : Prop :=
  ∀ (cdv : Value) (A : Around) (outer : List PySem.Env) (s : Shared) (H : Hp) (E : XK) (H0 F0 : Hp) (OA : List Addr) (V0 : L2.St), Room k (A.deeper (envOfC qual scope s.heap.objs.size f cdv)) →
    PSs (cxOf (L2N.CX P w) P w T.K mg base N qual scope f cdv A outer s H E) body (tS ⟨T, H0, F0, OA, V0⟩ (wOf E) mb)
theorem cal_of (F : FunD T.K x qual params body scope [] [] f fd) (SC : FnScope N ps scope) (hm : mg x = some (.ref f)) (hb : Binds T.K fd ps []) (h : Body P w T mg base N qual scope f k body mb) : Cal P w T mg base (k + 1) x ps.length (fnD N.length mb) :=
  ⟨f, fd, ps, fn_ok F SC h, hm, F.kp, hb⟩
theorem calM_of {C : Addr} (F : FunD T.K x qual params body scope [] [] f fd) (SC : FnScope N ps scope) (hc : T.cls c = some C) (hC : Cls T.K C) (hM : Meth T.K C m f) (hb : Binds T.K fd ps []) (h : Body P w T mg base N qual scope f k body mb) : CalM P w T mg base (k + 1) c m ps.length (fnD N.length mb) :=
  ⟨C, f, fd, ps, hc, hC, hM, fn_ok F SC h, hb⟩
theorem calC_of {C : Addr} (F : FunD T.K x qual params body scope [] [] f fd) (SC : FnScope N ps scope) (hc : T.cls c = some C) (hm : mg c = some (.ref C)) (hM : Mk T.K C f) (hb : Binds T.K fd ps []) (h : Body P w T mg base N qual scope f k body mb) : CalC P w T mg base (k + 1) c ps.length (fnD N.length mb) :=
  ⟨C, f, fd, ps, hc, hm, hM, fn_ok F SC h, hb⟩
def BodyC (P : Program) (w : World) (T : Tb) (mg : Str → Option Value) (base : Heap) (N : List Str) (qual : Str) (scope : Scope) (f : Addr) (ca : Addr) (k : Nat) (body : List Stmt) (mb : Env → Fl) : Prop :=
  ∀ (A : Around) (outer : List PySem.Env) (s : Shared) (H : Hp) (E : XK) (H0 F0 : Hp) (OA : List Addr) (V0 : L2.St), Room k (A.deeper (envOfC qual scope s.heap.objs.size f (.ref ca))) →
    PSs (cxOf (L2N.CX P w) P w T.K mg base N qual scope f (.ref ca) A outer s H E) body (tS ⟨T, H0, F0, OA, V0⟩ (wOf E) mb)
theorem fun_code {K : PySem.W.Frag} {p : Str × Option Str} (F : FunD K x qual params body scope [] [] (He.fAd K p) fd) : ∃ (oc : Value) (od : Option Addr) (dV kV doc pm : Value) (an : Option Addr) (ct : Value) (osl : Array (Option Value)), fd = PySem.W.fnOf x qual params body scope dV kV doc pm an (.ref (He.codeOf K p)) ct ∧
    K.lookup (He.fAd K p) = some ⟨oc, od, .func fd, osl⟩ ∧ PySem.W.codeIn K (.ref (He.codeOf K p)) qual = true := by
  obtain ⟨oc, od, dV, kV, doc, pm, an, cdv, ct, osl, rfl, lk, hcd, _, _⟩ := F.ex
  obtain ⟨ca, rfl⟩ := He.codeIn_ref hcd
  have e := He.codeOf_eq lk rfl
  rw [e]
  exact ⟨oc, od, dV, kV, doc, pm, an, ct, osl, rfl, lk, hcd⟩
theorem fn_okC {p : Str × Option Str} (F : FunD T.K x qual params body scope [] [] (He.fAd T.K p) fd) (SC : FnScope N ps scope) (h : BodyC P w T mg base N qual scope (He.fAd T.K p) (He.codeOf T.K p) k body mb) : FnOk P w T.K mg base (L2N.CX P w) (k + 1) (He.fAd T.K p) fd ps (spF T ps.length (fnD N.length mb)) := by
  obtain ⟨oc, od, dV, kV, doc, pm, an, ct, osl, rfl, lk, hcd⟩ := fun_code F
  refine fn_of lk hcd SC (fun vs H Q E h => h.len) fun A outer s H vs Q E hr hsp => ?_
  exact body_run SC (h A outer s H E) hr hsp
def noFn : Fn := fun _ => .bad
theorem noFn_sp {vs : List V} {H : Hp} {Q : VK} {E : XK} (h : spF T n noFn vs H Q E) : False := by
  obtain ⟨F, args, ad, OA, _, _, _, q⟩ := h
  exact q
theorem cal_no (F : FunD T.K x qual params body scope [] [] f fd) (hm : mg x = some (.ref f)) (hb : Binds T.K fd ps []) : Cal P w T mg base k x ps.length noFn :=
  ⟨f, fd, ps, ⟨fun vs H Q E h => (noFn_sp h).elim, fun A outer s H args us vs Q E _ _ _ _ h => (noFn_sp h).elim⟩, hm, F.kp, hb⟩
theorem calM_no {C : Addr} (F : FunD T.K x qual params body scope [] [] f fd) (hc : T.cls c = some C) (hC : Cls T.K C) (hM : Meth T.K C m f) (hb : Binds T.K fd ps []) : CalM P w T mg base k c m ps.length noFn :=
  ⟨C, f, fd, ps, hc, hC, hM, ⟨fun vs H Q E h => (noFn_sp h).elim, fun A outer s H args us vs Q E _ _ _ _ h => (noFn_sp h).elim⟩, hb⟩
theorem Cal.mono (h : Cal P w T mg base n x k φ) {j : Nat} (hj : n ≤ j) : Cal P w T mg base j x k φ := by
  obtain ⟨f, fd, ps, h1, h2, h3, h4⟩ := h.ex
  exact ⟨f, fd, ps, ⟨h1.len, fun A outer s H args us vs Q E hr => h1.run A outer s H args us vs Q E (hr.mono hj)⟩, h2, h3, h4⟩
end
theorem gd_el (G : Gd) {T : Tb} {V : L2.St} (h1 : G.T = T) (h2 : G.V0 = V) : G = ⟨T, G.H0, G.F0, G.OA, V⟩ := by
  subst h1 h2
  rfl
theorem gr_el {S : Gd} (G : Gr S) : G.1 = ⟨S.T, G.1.H0, G.1.F0, G.1.OA, S.V0⟩ := gd_el G.1 G.2.1 G.2.2
section
variable {X : Cx} {T : Tb} {H0 F0 : Hp} {OA : List Addr} {V0 : L2.St} {W : WX} {elt tg iter : Expr} {ifs : List Expr} {scope : Scope} {own : List (Str × Nat)} {pos : Pos} {mi : M (List D)} {m te : M D} {tt : M Bool} {f : Tg} {js : List Nat}
theorem do_lcT (hc : X.calm = true) (hN : X.N.Nodup) (hi : PI X tg iter (tI ⟨T, H0, F0, OA, V0⟩ W mi)) (ok : BlkOk X.N X.env.scope scope own)
    (hg : ∀ (s : Shared) (H : Hp) (C : Addr) (cl : List (Str × Addr)) (fp : List Addr) (H0 F0 : Hp) (OA : List Addr), PG (X.blk s H scope (compEnvC scope cl C X.env) fp) tg (tG ⟨T, H0, F0, OA, V0⟩ js f))
    (ht : ∀ (s : Shared) (H : Hp) (C : Addr) (cl : List (Str × Addr)) (fp : List Addr) (H0 F0 : Hp) (OA : List Addr), PTs (X.blk s H scope (compEnvC scope cl C X.env) fp) ifs (tT ⟨T, H0, F0, OA, V0⟩ W0 tt))
    (he : ∀ (s : Shared) (H : Hp) (C : Addr) (cl : List (Str × Addr)) (fp : List Addr) (H0 F0 : Hp) (OA : List Addr), PE (X.blk s H scope (compEnvC scope cl C X.env) fp) elt (tD ⟨T, H0, F0, OA, V0⟩ W0 te))
    (hj : ∀ j ∈ js, j ∈ own.map (·.2) := by decide) (hs : ∀ x, foldedSetIterable iter X.env x = pure x := by intro _; rfl) : PE X (.ListComp elt [⟨tg, iter, ifs, 0⟩] scope pos) (tO ⟨T, H0, F0, OA, V0⟩ W (oLc (own.map (·.2)) mi f tt te)) :=
  do_lc hc hN hi ok (fun s H C cl fp G => by rw [gr_el G]; exact hg s H C cl fp _ _ _) (fun s H C cl fp G => by rw [gr_el G]; exact ht s H C cl fp _ _ _) (fun s H C cl fp G => by rw [gr_el G]; exact he s H C cl fp _ _ _) hj hs
theorem ds_setLcT {i : Nat} {y : Str} {py spos : Pos} (hc : X.calm = true) (hN : X.N.Nodup) (hy : X.N[i]? = some y) (hyl : X.env.scope.names.lookup y = some .local) (hsw : swapsWith (.ListComp elt [⟨tg, iter, ifs, 0⟩] scope pos) (some (.Name y py)) spos.line X.env = pure true)
    (hi : PI X tg iter (tI ⟨T, H0, F0, OA, V0⟩ W mi)) (ok : BlkOk X.N X.env.scope scope own)
    (hg : ∀ (s : Shared) (H : Hp) (C : Addr) (cl : List (Str × Addr)) (fp : List Addr) (H0 F0 : Hp) (OA : List Addr), PG (X.blk s H scope (compEnvC scope cl C X.env) fp) tg (tG ⟨T, H0, F0, OA, V0⟩ js f))
    (ht : ∀ (s : Shared) (H : Hp) (C : Addr) (cl : List (Str × Addr)) (fp : List Addr) (H0 F0 : Hp) (OA : List Addr), PTs (X.blk s H scope (compEnvC scope cl C X.env) fp) ifs (tT ⟨T, H0, F0, OA, V0⟩ W0 tt))
    (he : ∀ (s : Shared) (H : Hp) (C : Addr) (cl : List (Str × Addr)) (fp : List Addr) (H0 F0 : Hp) (OA : List Addr), PE (X.blk s H scope (compEnvC scope cl C X.env) fp) elt (tD ⟨T, H0, F0, OA, V0⟩ W0 te))
    (hj : ∀ j ∈ js, j ∈ own.map (·.2) := by decide) (hs : ∀ x, foldedSetIterable iter X.env x = pure x := by intro _; rfl) : PS X (.Assign [.Name y py] (.ListComp elt [⟨tg, iter, ifs, 0⟩] scope pos) spos) (tS ⟨T, H0, F0, OA, V0⟩ W (sOwn (oLc (own.map (·.2)) mi f tt te) i)) :=
  ds_setLc hc hN hy hyl hsw hi ok (fun s H C cl fp G => by rw [gr_el G]; exact hg s H C cl fp _ _ _) (fun s H C cl fp G => by rw [gr_el G]; exact ht s H C cl fp _ _ _) (fun s H C cl fp G => by rw [gr_el G]; exact he s H C cl fp _ _ _) hj hs
end
theorem xc_of {K : PySem.W.Frag} {h : Heap} {mg : Str → Option Value} {tabs : List (Addr × Str)} {w : World} {x : Str} (X : K.In h) (G : h.Ns mainGlobals mg) (c1 : (He.Fa.glo x).ok K = true) (c2 : (He.Fa.exc x).ok K = true) : Xc (tbOf K tabs w) mg x := by
  obtain ⟨h1, h2, h3, h4⟩ := He.exc_ok c2
  exact ⟨_, rfl, He.glo_ok X G c1, h1, h2, h3, h4⟩
end DL
set_option Elab.async false
set_option linter.all false
set_option maxRecDepth 100000
set_option maxHeartbeats 2000000
namespace DL
open PySem PySem.Spec PyProof.Rows L2 L2H HotX LamX
abbrev parR (ns : List Int) (hi : Int) : List DL.Slot := [DL.Slot.dat (D.scr ns), DL.Slot.dat (D.int hi)]
abbrev envR (ns : List Int) (hi : Int) (n : Nat) : DL.Env := parR ns hi ++ List.replicate n DL.Slot.emp
structure Nest (H0 H F : Hp) (ad : Nat → List Addr) (b : Addr) (as : List Addr) (cz : Nat → Int) : Prop where
  nd : (b :: as).Nodup
  out : H b = some (.lst (as.map V.ref))
  inn : ∀ (j : Nat) (x : Addr), as[j]? = some x → H x = some (.lst [.int (cz j), .int 0])
  new : ∀ x ∈ b :: as, H0 x = none ∧ F x = none ∧ ∀ j, x ∉ ad j
def spRounds (T : Tb) (φ : Fn) (mx : M (List D)) (n : Nat) (cz : List Int → Nat → Int) (cnt : List Int → Int → Nat) : Sp := fun vs H Q _ => ∃ F ad ns hi, vs.length = 2 ∧ SR (gd T H F [] vs) (vs.map some) H F (parR ns hi) ad ∧
  mx (envR ns hi n) = .ok (rangeD 0 (cnt ns hi)) (envR ns hi n) ∧ cnt ns hi ≤ 1000 ∧
  (∀ k, k < cnt ns hi → φ [.dat (.scr ns), .dat (.int k)] = .rt (.int (cz ns k)) [.dat (.scr ns), .dat (.int k)]) ∧
  ∀ b as H' F' ad', Le F F' → SR (gd T H F [] vs) (vs.map some) H' F' (parR ns hi) ad' → as.length = cnt ns hi → Nest H H' F' ad' b as (cz ns) → Q (.ref b) H'
theorem Nest.call {S : Gd} {H0 H F H' F' : Hp} {ad : Nat → List Addr} {b : Addr} {as : List Addr} {cz : Nat → Int} {τ V0 : L2.St} {ss : Env} {adc : Nat → List Addr} {i : Nat} (h : Nest H0 H F ad b as cz) (c : SR ⟨S.T, H, F, [], V0⟩ τ H' F' ss adc) : Nest H0 H' F' (setA ad i []) b as cz := by
  refine ⟨h.nd, c.keep _ _ (by simp) h.out (fun _ z => by cases z), fun j x e => c.keep _ _ (by simp) (h.inn j x e) (fun _ z => by cases z), fun x hx => ?_⟩
  obtain ⟨n1, n2, n3⟩ := h.new x hx
  refine ⟨n1, ?_, fun j hj => ?_⟩
  · cases q : F' x with
    | none => rfl
    | some o =>
      have hx2 : H x ≠ none := by
        rcases List.mem_cons.mp hx with z | z
        · rw [z, h.out]; exact fun z => by cases z
        · obtain ⟨j, hj⟩ := List.getElem?_of_mem z
          rw [h.inn j x hj]; exact fun z => by cases z
      rcases c.old x o q with y | y | y
      · have y : F x = some o := y
        rw [n2] at y; cases y
      · exact absurd y hx2
      · cases y
  · by_cases z : j = i
    · rw [z, setA_same] at hj
      cases hj
    · rw [setA_ne z] at hj
      exact n3 j hj
theorem SR.noads {S : Gd} {σ : L2.St} {H F : Hp} {env : DL.Env} {ad : Nat → List Addr} (h : SR S σ H F env ad) (hd : ∀ s ∈ env, handed s = true ∧ isLent s = false) (j : Nat) : ad j = [] := by
  by_cases hj : j < env.length
  · have q := h.at_ j _ (List.getElem?_eq_getElem hj)
    obtain ⟨h1, h2⟩ := hd _ (List.getElem_mem hj)
    generalize env[j] = s at q h1 h2
    cases s with
    | dat d => exact q.1
    | emp => exact q
    | own _ => cases h1
    | lent _ => cases h2
  · exact h.out j (by omega)
theorem Nest.more {S : Gd} {σ : L2.St} {H F : Hp} {env : DL.Env} {ad : Nat → List Addr} {b p : Addr} {as : List Addr} {cz : Nat → Int} (h : Nest S.H0 H F ad b as cz) (sr : SR S σ H F env ad) (hp : H p = none) :
    let H5 := upd (upd H p (.lst [.int (cz as.length), .int 0])) b (.lst (as.map V.ref ++ [V.ref p]))
    SR S σ H5 F env ad ∧ Nest S.H0 H5 F ad b (as ++ [p]) cz := by
  intro H5
  have nb : b ≠ p := ne_of_none h.out hp
  have sr2 := sr.more (o := .lst [.int (cz as.length), .int 0]) hp
  have ob : upd H p (.lst [.int (cz as.length), .int 0]) b = some (.lst (as.map V.ref)) := by rw [upd_ne nb]; exact h.out
  obtain ⟨n1, n2, n3⟩ := h.new b List.mem_cons_self
  have sr3 := sr2.side (ys := as.map V.ref ++ [V.ref p]) ob n2 n3 n1
  have pas : p ∉ b :: as := fun z => by
    rcases List.mem_cons.mp z with y | y
    · exact nb y.symm
    · obtain ⟨j, hj⟩ := List.getElem?_of_mem y
      have := h.inn j p hj
      rw [hp] at this
      cases this
  refine ⟨sr3, ⟨?_, ?_, fun j x e => ?_, fun x hx => ?_⟩⟩
  · rw [← List.cons_append, List.nodup_append]
    refine ⟨h.nd, by simp, fun a ha c hc => ?_⟩
    have : c = p := by simpa using hc
    subst this
    exact fun z => pas (z ▸ ha)
  · show upd _ b _ b = _
    rw [upd_same, List.map_append]
    rfl
  · have hx : x ≠ b := fun z => by
      subst z
      have nd := h.nd
      rw [List.nodup_cons] at nd
      by_cases hj : j < as.length
      · rw [List.getElem?_append_left hj] at e
        exact nd.1 (List.mem_of_getElem? e)
      · rw [List.getElem?_append_right (by omega)] at e
        have : x = p := by
          have := List.mem_of_getElem? e
          simpa using this
        exact nb this
    show upd _ b _ x = _
    rw [upd_ne hx]
    by_cases hj : j < as.length
    · rw [List.getElem?_append_left hj] at e
      have q := h.inn j x e
      rw [upd_ne (ne_of_none q hp)]
      exact q
    · rw [List.getElem?_append_right (by omega)] at e
      have e3 : j - as.length = 0 := by
        cases q : j - as.length with
        | zero => rfl
        | succ m => rw [q] at e; simp at e
      rw [e3] at e
      have e4 : p = x := by simpa using e
      have e5 : j = as.length := by omega
      rw [← e4, e5, upd_same]
  · rw [← List.cons_append] at hx
    rcases List.mem_append.mp hx with z | z
    · exact h.new x z
    · have : x = p := by simpa using z
      subst this
      exact ⟨sr.dom x hp, sr.fnone hp, fun j hj => sr.somes hj hp⟩
theorem rounds_pure {T : Tb} {φ : Fn} {mx : M (List D)} {n : Nat} {cz : List Int → Nat → Int} {cnt : List Int → Int → Nat} {N : List Str} {vs : List V} {H : Hp} {Q : VK} {E E1 : XK} {W : WX} (hN : N.length = 2 + n) (hn : 1 ≤ n) (h : spRounds T φ mx n cz cnt vs H Q E) :
    ∃ F, tLc (tI ⟨T, H, F, [], vs.map some⟩ W mx) (gName 2) tYes (tLst (tCons (tCall (spF T 2 φ) [] E1 (tCons (tVar 0) (tCons (tVar 2) tNil))) (tCons (tC (.int 0)) tNil))) [2] (L2.start N vs) H Q := by
  obtain ⟨F, ad, ns, hi, hl, sr, hmx, hc, hφ, hQ⟩ := h
  obtain ⟨v0, v1, rfl⟩ : ∃ v0 v1, vs = [v0, v1] := by
    match vs, hl with
    | [a, b], _ => exact ⟨a, b, rfl⟩
  have hst : L2.start N [v0, v1] = [some v0, some v1] ++ List.replicate n none := by
    unfold L2.start
    rw [hN]
    simp
  have hsr := sr.begin N.length
  rw [hN] at hsr
  have e1 : 2 + n - [v0, v1].length = n := by simp
  have e2 : 2 + n - (parR ns hi).length = n := by simp
  rw [e1, e2] at hsr
  refine ⟨F, F, _, ad, (by rw [hst]; exact hsr), ?_⟩
  show Post _ _ _ _ (mx (envR ns hi n)) _
  rw [hmx]
  intro H1 F1 ad1 le1 sr1 J hJ D hD
  -- the state of the two parameters alone
  obtain ⟨_, w0, x0, r0⟩ := sr1.at_ 0 _ (rfl : (envR ns hi n)[0]? = _)
  obtain ⟨_, w1, x1, r1⟩ := sr1.at_ 1 _ (rfl : (envR ns hi n)[1]? = _)
  rw [hst] at x0 x1
  cases x0
  cases x1
  have dl : (rangeD 0 (cnt ns hi)).length = cnt ns hi := rangeD_length _ _
  refine ⟨fun i m Hc => m = cnt ns hi - i ∧ i ≤ cnt ns hi ∧ ∃ Fc adc as, Le F1 Fc ∧ SR ⟨T, H, F, [], [some v0, some v1]⟩ (L2.start N [v0, v1]) Hc Fc (envR ns hi n) adc ∧ as.length = i ∧ Nest H Hc Fc adc D as (cz ns), ⟨cnt ns hi, by simp, Nat.zero_le _, F1, ad1, [], Le.refl F1, sr1.more hD, rfl, ?_⟩, ?_⟩
  · refine ⟨by simp, upd_same, fun j x e => by simp at e, fun x hx => ?_⟩
    have : x = D := by simpa using hx
    subst this
    exact ⟨sr1.dom x hD, sr1.fnone hD, fun j hj => sr1.somes hj hD⟩
  rintro i m Hc ⟨rfl, hi2, Fc, adc, as, lec, src, las, nest⟩
  by_cases hlt : i < cnt ns hi
  · have hd : (rangeD 0 (cnt ns hi))[i]? = some (rangeD 0 (cnt ns hi))[i] := List.getElem?_eq_getElem (by rw [dl]; exact hlt)
    have hdi : (rangeD 0 (cnt ns hi))[i]? = some (.int i) := by
      have := (rangeD_get _ _ _ _ hd).2
      rw [hd, this]
      simp
    obtain ⟨g, y⟩ := (hJ Hc (lec.trans src.sub) i).1 _ hdi
    refine .inr ⟨g, fun H' => ∃ Fc adc as, Le F1 Fc ∧ SR ⟨T, H, F, [], [some v0, some v1]⟩ (L2.start N [v0, v1]) H' Fc (envR ns hi n) adc ∧ as.length = i + 1 ∧ Nest H H' Fc adc D as (cz ns), fun H' z => ⟨cnt ns hi - (i + 1), by omega, rfl, by omega, z⟩, fun x H' hy => ?_⟩
    have hx : H' = Hc ∧ x = .int i := by
      rcases y x H' hy with ⟨z1, z2⟩ | ⟨p, us, es, _, _, _, z, _⟩
      · cases z2
        exact ⟨z1, rfl⟩
      · cases z
    obtain ⟨rfl, rfl⟩ := hx
    show wipe _ _ = _ ∧ _
    obtain ⟨n', rfl⟩ : ∃ n', n = n' + 1 := ⟨n - 1, by omega⟩
    have hw : wipe (L2.start N [v0, v1]) [2] = L2.start N [v0, v1] := by
      rw [hst]
      rfl
    rw [hw]
    have hσ : (L2.start N [v0, v1]).set 2 (some (V.int i)) = [some v0, some v1, some (.int i)] ++ List.replicate n' none := by
      rw [hst]
      rfl
    refine ⟨?_, ?_⟩
    · rw [hσ, hst]
      rfl
    · rw [hσ]
      unfold tYes
      simp only [if_true]
      refine ⟨v0, rfl, .int i, rfl, ?_⟩
      unfold tNil
      simp only [List.append_nil]
      have en := src.enter (OA := []) (vs := [v0, .int i]) (ss := [.dat (.scr ns), .dat (.int i)]) (adc := fun _ => []) rfl (fun j s e => ?_) (fun _ _ => rfl) (fun _ _ _ z => by cases z) (fun _ _ z => by cases z)
      · refine ⟨Fc, _, _, [], rfl, en, rfl, ?_⟩
        rw [hφ i hlt]
        intro v H2 F2 ad2 le2 c rv
        cases rv
        refine ⟨by show 2 ≤ sizeLine; decide, fun p hp => ⟨as.map V.ref, ?_, ?_, ?_⟩⟩
        · have q := c.keep D _ (by simp) nest.out (fun _ z => by cases z)
          rw [upd_ne (ne_of_none q hp)]
          exact q
        · rw [List.length_map, las]
          exact size1m (by omega)
        · have lv := src.leave c (envR ns hi (n' + 1)).length fun a ha => by cases ha
          rw [List.set_eq_of_length_le (Nat.le_refl _)] at lv
          have nc := nest.call (S := ⟨T, H, F, [], [some v0, some v1]⟩) (i := (envR ns hi (n' + 1)).length) c
          rw [← las]
          obtain ⟨m1, m2⟩ := nc.more (S := ⟨T, H, F, [], [some v0, some v1]⟩) lv hp
          exact ⟨F2, _, as ++ [p], lec.trans le2, m1, by simp, m2⟩
      · cases j with
        | zero => cases e; exact ⟨rfl, _, rfl, r0.mono lec⟩
        | succ j =>
          cases j with
          | zero => cases e; exact ⟨rfl, _, rfl, .int _⟩
          | succ j => cases e
  · have e0 : i = cnt ns hi := by omega
    subst e0
    refine .inl ⟨(hJ Hc (lec.trans src.sub) _).2 dl.symm, ?_⟩
    have e4 : backA (parR ns hi) (envR ns hi n) = some (parR ns hi) := rfl
    obtain ⟨adf, srf⟩ := SR.back sr rfl src e4
    refine hQ D as Hc Fc adf (le1.trans lec) srf las ⟨nest.nd, nest.out, nest.inn, fun x hx => ⟨(nest.new x hx).1, (nest.new x hx).2.1, fun j hj => ?_⟩⟩
    rw [srf.noads (fun s hs => by
      have : s = .dat (.scr ns) ∨ s = .dat (.int hi) := by simpa using hs
      rcases this with z | z <;> rw [z] <;> exact ⟨rfl, rfl⟩) j] at hj
    cases hj
def roundsD (body : DL.Env → Fl) (n id : Nat) (cz : Nat → Int) : Nat → Nat → Fl
  | 0, _ => .nx (List.replicate n .emp)
  | r + 1, k => match body ((List.replicate n .emp).set id (.own (.ol [.int (cz k), .int 0]))) with
    | .nx e => if e.length = n then roundsD body n id cz r (k + 1) else .bad
    | .ct e => if e.length = n then roundsD body n id cz r (k + 1) else .bad
    | .rt d e => .rt d e
    | .exc c e => .exc c e
    | .bk _ => .bad
    | .bad => .bad
def sRounds (is id : Nat) (hi : Int) (cz : List Int → Nat → Int) (cnt : List Int → Int → Nat) (body : DL.Env → Fl) : DL.Env → Fl := fun env => match env[is]? with
  | some (.dat (.scr ns)) => if ns.length ≤ 63 ∧ id < env.length then roundsD body env.length id (cz ns) (cnt ns hi) 0 else .bad
  | _ => .bad
section
variable {S : Gd} {σ : L2.St} {H F Fx : Hp} {env : DL.Env} {ad : Nat → List Addr}
theorem SR.reset (h : SR S σ H Fx env ad) (sub : Le F H) (nt : ∀ a o, F a = some o → NoTbl o) (old : ∀ a o, F a = some o → S.F0 a = some o ∨ S.H0 a = none ∨ a ∈ S.OA) (le0 : Le S.F0 F) : SR S σ H F (List.replicate env.length .emp) (fun _ => []) := by
  refine ⟨by rw [List.length_replicate]; exact h.len, sub, fun i s e => ?_, fun _ _ => rfl, fun i j a z => (by cases z), fun i a z => (by cases z), h.keep, h.tab, nt, old, le0, h.dom, fun i o e => ?_⟩
  · rw [List.getElem?_replicate] at e
    split at e
    · cases e; rfl
    · cases e
  · rw [List.getElem?_replicate] at e
    split at e <;> cases e
end
def Fr (F : Hp) (b : Addr) (as : List Addr) (cz : Nat → Int) (i : Nat) : Hp := fun x => if x = b then some (.lst (as.map V.ref)) else match (as.drop (i + 1)).findIdx? (· == x) with
  | some j => some (.lst [.int (cz (i + 1 + j)), .int 0])
  | none => F x
theorem Fr_b {F : Hp} {b : Addr} {as : List Addr} {cz : Nat → Int} {i : Nat} : Fr F b as cz i b = some (.lst (as.map V.ref)) := if_pos rfl
theorem Fr_get {F : Hp} {b x : Addr} {as : List Addr} {cz : Nat → Int} {i : Nat} {o : HO} (h : Fr F b as cz i x = some o) : (x = b ∧ o = .lst (as.map V.ref)) ∨ (∃ j, i < j ∧ as[j]? = some x ∧ o = .lst [.int (cz j), .int 0]) ∨ F x = some o := by
  unfold Fr at h
  by_cases e : x = b
  · rw [if_pos e] at h
    cases h
    exact .inl ⟨e, rfl⟩
  · rw [if_neg e] at h
    cases q : (as.drop (i + 1)).findIdx? (· == x) with
    | none =>
      rw [q] at h
      exact .inr (.inr h)
    | some j =>
      rw [q] at h
      cases h
      obtain ⟨hj, he, _⟩ := List.findIdx?_eq_some_iff_getElem.mp q
      refine .inr (.inl ⟨i + 1 + j, by omega, ?_, rfl⟩)
      have e2 : (as.drop (i + 1))[j] = x := by simpa using he
      rw [← e2, List.getElem_drop]
      exact List.getElem?_eq_getElem _
theorem Fr_in {F : Hp} {b x : Addr} {as : List Addr} {cz : Nat → Int} {i j : Nat} (nd : (b :: as).Nodup) (hj : i < j) (h : as[j]? = some x) : Fr F b as cz i x = some (.lst [.int (cz j), .int 0]) := by
  have nx : x ≠ b := fun z => by
    rw [List.nodup_cons] at nd
    exact nd.1 (z ▸ List.mem_of_getElem? h)
  unfold Fr
  rw [if_neg nx]
  have hd : (as.drop (i + 1))[j - (i + 1)]? = some x := by rw [List.getElem?_drop, show i + 1 + (j - (i + 1)) = j by omega]; exact h
  cases q : (as.drop (i + 1)).findIdx? (· == x) with
  | none =>
    rw [List.findIdx?_eq_none_iff] at q
    have := q x (List.mem_of_getElem? hd)
    simp at this
  | some k =>
    obtain ⟨hk, he, _⟩ := List.findIdx?_eq_some_iff_getElem.mp q
    have e2 : (as.drop (i + 1))[k] = x := by simpa using he
    rw [List.getElem_drop] at e2
    have hk2 : i + 1 + k < as.length := by rw [List.length_drop] at hk; omega
    have e3 : as[i + 1 + k]? = some x := by rw [← e2]; exact List.getElem?_eq_getElem hk2
    have : i + 1 + k = j := by
      rw [List.nodup_cons] at nd
      have hj2 : j < as.length := (List.getElem?_eq_some_iff.mp h).1
      exact (List.getElem?_inj hk2 nd.2).mp (e3.trans h.symm)
    rw [← this]
theorem Fr_out {F : Hp} {b x : Addr} {as : List Addr} {cz : Nat → Int} {i : Nat} (nd : (b :: as).Nodup) (h : as[i]? = some x) : Fr F b as cz i x = F x := by
  have nx : x ≠ b := fun z => by
    rw [List.nodup_cons] at nd
    exact nd.1 (z ▸ List.mem_of_getElem? h)
  unfold Fr
  rw [if_neg nx]
  cases q : (as.drop (i + 1)).findIdx? (· == x) with
  | none => rfl
  | some k =>
    obtain ⟨hk, he, _⟩ := List.findIdx?_eq_some_iff_getElem.mp q
    have e2 : (as.drop (i + 1))[k] = x := by simpa using he
    rw [List.getElem_drop] at e2
    have hk2 : i + 1 + k < as.length := by rw [List.length_drop] at hk; omega
    have e3 : as[i + 1 + k]? = some x := by rw [← e2]; exact List.getElem?_eq_getElem hk2
    rw [List.nodup_cons] at nd
    have := (List.getElem?_inj hk2 nd.2).mp (e3.trans h.symm)
    omega
section
variable {X : Cx} {S : Gd} {W : WX} {E : XK} {x y : Str} {body : List Stmt} {p1 p2 p3 p4 p5 pos : Pos} {is id k n j4 : Nat} {hi : Int} {φ : Fn} {mx : M (List D)} {cz : List Int → Nat → Int} {cnt : List Int → Int → Nat} {mb : DL.Env → Fl} {f : Addr} {fd : FuncData} {CX : CXT}
theorem ds_rounds (FR : FnOk X.prog X.w X.K X.mg X.base CX k f fd ["script", "high"] (spRounds S.T φ mx n cz cnt)) (hr : Room k X.A) (hgl : Gl X "_law_rounds") (hm : X.mg "_law_rounds" = some (.ref f)) (hkp : PySem.W.keepIn X.K (.ref f) = true) (hb : Binds X.K fd ["script", "high"] []) (hpc : Passes CX X E)
    (hmx : ∀ ns : List Int, ns.length ≤ 63 → mx (envR ns hi n) = .ok (rangeD 0 (cnt ns hi)) (envR ns hi n)) (hcn : ∀ ns : List Int, ns.length ≤ 63 → cnt ns hi ≤ 1000)
    (hφ : ∀ ns : List Int, ns.length ≤ 63 → ∀ k, k < cnt ns hi → φ [.dat (.scr ns), .dat (.int k)] = .rt (.int (cz ns k)) [.dat (.scr ns), .dat (.int k)])
    (hp : PassesOwn (model X.prog X.w) X.A X.env X.xe) (hc : X.calm = true) (hs0 : PE X (.Name y p3) (tVar is)) (hN : X.N.Nodup) (hid : X.N[id]? = some x) (hx : Loc X.env.scope x) (hbody : PSs X body (tS S W mb)) (hK : X.K = S.T.K := by rfl)
    (hf : X.fn x = true ∨ X.env.scope.names.lookup x = some .local := by first | exact .inl rfl | exact .inr rfl | assumption) (hdb : ((Str.ofString "_law_rounds") == ("__debug__" : Str)) = false := by decide)
    (he : starEach [.Name y p3, .Constant (.int hi) j4 p4] X.env = (false, eval (.Name y p3) X.env) :: starEach [.Constant (.int hi) j4 p4] X.env := by rfl) (he2 : starEach [.Constant (.int hi) j4 p4] X.env = (false, eval (.Constant (.int hi) j4 p4) X.env) :: starEach [] X.env := by rfl)
    (hpl : (backTo p5 (starEach [.Constant (.int hi) j4 p4] X.env)).any (·.1) = false := by rfl) (hfs : ∀ z, foldedSetIterable (.Call (.Name "_law_rounds" p2) [.Name y p3, .Constant (.int hi) j4 p4] [] p5) X.env z = pure z := by intro _; rfl) :
    PS X (.For (.Name x p1) (.Call (.Name "_law_rounds" p2) [.Name y p3, .Constant (.int hi) j4 p4] [] p5) body [] pos) (tS S W (sRounds is id hi cz cnt mb)) := by
  refine PS.imp (ps_for hp hc (pi_list (pe_call FR hr hgl hm hkp hb .nil hpc (pa_cons hs0 (pa_cons pe_int pa_nil he2) he) hdb he hpl)) (pg_name (i := id) hN hid hx hf) hbody hfs) fun d σ H ⟨F, env, ad, sr, p⟩ => ?_
  unfold sRounds at p
  cases q : env[is]? with
  | none => rw [q] at p; exact p.elim
  | some sl =>
    rw [q] at p
    cases sl with
    | emp => exact p.elim
    | own _ => exact p.elim
    | lent _ => exact p.elim
    | dat dd =>
      cases dd with
      | scr ns =>
        simp only at p
        by_cases hns : ns.length ≤ 63 ∧ id < env.length
        case neg => rw [if_neg hns] at p; exact p.elim
        rw [if_pos hns] at p
        obtain ⟨_, v, hv, rv⟩ := sr.at_ is _ q
        refine ⟨v, hv, ?_⟩
        unfold tCons tC tNil
        simp only [List.append_nil]
        have en := sr.enter (OA := []) (vs := [v, .int hi]) (ss := parR ns hi) (adc := fun _ => []) rfl (fun j s e => ?_) (fun _ _ => rfl) (fun _ _ _ z => by cases z) (fun _ _ z => by cases z)
        case refine_1 =>
          cases j with
          | zero => cases e; exact ⟨rfl, _, rfl, rv⟩
          | succ j =>
            cases j with
            | zero => cases e; exact ⟨rfl, _, rfl, .int _⟩
            | succ j => cases e
        refine ⟨F, _, ns, hi, rfl, en, hmx ns hns.1, hcn ns hns.1, hφ ns hns.1, fun b as H1 F1 ad1 le1 c las nest => ⟨b, rfl, ⟨_, by rw [hK]; exact SqL.of nest.out⟩, ?_⟩⟩
        have lv := sr.leave c env.length fun a ha => by cases ha
        rw [List.set_eq_of_length_le (Nat.le_refl _)] at lv
        have fresh : ∀ z ∈ b :: as, S.H0 z = none ∧ F z = none := fun z hz => by
          have h0 : H z = none := (nest.new z hz).1
          exact ⟨sr.dom z h0, sr.fnone h0⟩
        refine ⟨fun i m σ' Hc => m = as.length - i ∧ i ≤ as.length ∧ PostS S W F d (roundsD mb env.length id (cz ns) (as.length - i) i) ∧ Hc b = some (.lst (as.map V.ref)) ∧ (∀ j z, i ≤ j → as[j]? = some z → Hc z = some (.lst [.int (cz ns j), .int 0])) ∧ Le F Hc ∧ ∃ Fx envx adx, envx.length = env.length ∧ SR S σ' Hc Fx envx adx,
          ⟨as.length, by simp, Nat.zero_le _, by rw [las]; exact p, nest.out, fun j z _ e => nest.inn j z e, le1.trans c.sub, F1, env, _, rfl, lv⟩, ?_⟩
        rintro i m σ' Hc ⟨rfl, hi2, pr, hob, hin, leF, Fx, envx, adx, lenx, srx⟩
        -- the state of a round, all forgotten
        have leR : Le (Fr F b as (cz ns) i) Hc := fun z o e => by
          rcases Fr_get e with ⟨e1, e2⟩ | ⟨j, hj, e1, e2⟩ | e1
          · rw [e1, e2]; exact hob
          · rw [e2]; exact hin j z (by omega) e1
          · exact leF z o e1
        have leFr : Le F (Fr F b as (cz ns) i) := fun z o e => by
          unfold Fr
          have nb : z ≠ b := fun w => by
            have := (fresh b List.mem_cons_self).2
            rw [← w, e] at this; cases this
          rw [if_neg nb]
          cases q2 : (as.drop (i + 1)).findIdx? (· == z) with
          | none => exact e
          | some j =>
            obtain ⟨hj, he, _⟩ := List.findIdx?_eq_some_iff_getElem.mp q2
            have e2 : (as.drop (i + 1))[j] = z := by simpa using he
            have hz : z ∈ as := by rw [← e2]; exact List.mem_of_mem_drop (List.getElem_mem _)
            have := (fresh z (List.mem_cons_of_mem _ hz)).2
            rw [e] at this; cases this
        have srr := srx.reset (F := Fr F b as (cz ns) i) leR (fun z o e => by
          rcases Fr_get e with ⟨_, e2⟩ | ⟨j, hj, _, e2⟩ | e1
          · rw [e2]; exact fun _ w => by cases w
          · rw [e2]; exact fun _ w => by cases w
          · exact sr.notb z o e1) (fun z o e => by
          rcases Fr_get e with ⟨e1, _⟩ | ⟨j, hj, e1, _⟩ | e1
          · rw [e1]; exact .inr (.inl (fresh b List.mem_cons_self).1)
          · exact .inr (.inl (fresh z (List.mem_cons_of_mem _ (List.mem_of_getElem? e1))).1)
          · exact sr.old z o e1) (sr.le0.trans leFr)
        rw [lenx] at srr
        by_cases hlt : i < as.length
        · have ha : as[i]? = some as[i] := List.getElem?_eq_getElem hlt
          have hil : (as.map V.ref)[i]? = some (V.ref as[i]) := by rw [List.getElem?_map, ha]; rfl
          obtain ⟨r', er⟩ : ∃ r', as.length - i = r' + 1 := ⟨as.length - i - 1, by omega⟩
          rw [er] at pr
          unfold roundsD at pr
          have nexts : ∀ (σ4 : L2.St) (H4 F4 : Hp) (e4 : DL.Env) (ad4 : Nat → List Addr), e4.length = env.length → Le (Fr F b as (cz ns) i) F4 → SR S σ4 H4 F4 e4 ad4 → PostS S W F d (roundsD mb env.length id (cz ns) r' (i + 1)) → ∃ m', m' < r' + 1 ∧ (m' = as.length - (i + 1) ∧ i + 1 ≤ as.length ∧ PostS S W F d (roundsD mb env.length id (cz ns) (as.length - (i + 1)) (i + 1)) ∧ H4 b = some (.lst (as.map V.ref)) ∧ (∀ j z, i + 1 ≤ j → as[j]? = some z → H4 z = some (.lst [.int (cz ns j), .int 0])) ∧ Le F H4 ∧ ∃ Fx envx adx, envx.length = env.length ∧ SR S σ4 H4 Fx envx adx) := fun σ4 H4 F4 e4 ad4 hl4 le4 sr4 pr4 => by
            have er2 : as.length - (i + 1) = r' := by omega
            refine ⟨as.length - (i + 1), by omega, rfl, hlt, by rw [er2]; exact pr4, sr4.sub _ _ (le4 _ _ Fr_b), fun j z hj e => sr4.sub _ _ (le4 _ _ (Fr_in nest.nd (by omega) e)), (leFr.trans le4).trans sr4.sub, F4, e4, ad4, hl4, sr4⟩
          refine .inr ⟨⟨_, _, by rw [hK]; exact SqL.of hob, hil⟩, fun σ4 H4 => ∃ m', m' < r' + 1 ∧ (m' = as.length - (i + 1) ∧ i + 1 ≤ as.length ∧ PostS S W F d (roundsD mb env.length id (cz ns) (as.length - (i + 1)) (i + 1)) ∧ H4 b = some (.lst (as.map V.ref)) ∧ (∀ j z, i + 1 ≤ j → as[j]? = some z → H4 z = some (.lst [.int (cz ns j), .int 0])) ∧ Le F H4 ∧ ∃ Fx envx adx, envx.length = env.length ∧ SR S σ4 H4 Fx envx adx), fun σ4 H4 z => by rw [er]; exact z, fun w H' hy => ?_⟩
          obtain ⟨rfl, hy2⟩ := hy
          have hw : some (V.ref as[i]) = some w := by
            have := hy2 _ (by rw [hK]; exact SqL.of hob)
            rw [hil] at this
            exact this
          cases hw
          have hai := hin i as[i] (Nat.le_refl _) ha
          have srd := srr.put id (some (.ref as[i])) (.own (.ol [.int (cz ns i), .int 0])) [as[i]] rfl (fun _ => ⟨_, rfl, rfl, _, hai, .cons (.int _) (.one (.int _))⟩) (fun hl => by rw [List.length_replicate] at hl; omega) (fun j a _ _ z => by cases z) (fun a hae => by
            have : a = as[i] := by simpa using hae
            subst this
            exact ⟨by rw [Fr_out nest.nd ha]; exact (fresh _ (List.mem_cons_of_mem _ (List.getElem_mem _))).2, .inl (fresh _ (List.mem_cons_of_mem _ (List.getElem_mem _))).1⟩)
          refine ⟨_, _, _, srd, ?_⟩
          cases q4 : mb ((List.replicate env.length .emp).set id (.own (.ol [.int (cz ns i), .int 0]))) with
          | nx e4 =>
            rw [q4] at pr
            simp only at pr
            by_cases hl4 : e4.length = env.length
            · rw [if_pos hl4] at pr
              exact fun σ5 H5 F5 ad5 le5 sr5 => nexts σ5 H5 F5 e4 ad5 hl4 le5 sr5 pr
            · rw [if_neg hl4] at pr
              exact pr.elim
          | ct e4 =>
            rw [q4] at pr
            simp only at pr
            by_cases hl4 : e4.length = env.length
            · rw [if_pos hl4] at pr
              exact fun σ5 H5 F5 ad5 le5 sr5 => nexts σ5 H5 F5 e4 ad5 hl4 le5 sr5 pr
            · rw [if_neg hl4] at pr
              exact pr.elim
          | rt d4 e4 =>
            rw [q4] at pr
            exact fun σ5 H5 F5 ad5 v le5 sr5 => pr σ5 H5 F5 ad5 v (leFr.trans le5) sr5
          | exc c4 e4 =>
            rw [q4] at pr
            exact fun C σ5 H5 F5 ad5 hC le5 sr5 => pr C σ5 H5 F5 ad5 hC (leFr.trans le5) sr5
          | bk e4 => rw [q4] at pr; exact pr.elim
          | bad => rw [q4] at pr; exact pr.elim
        · have e0 : i = as.length := by omega
          subst e0
          rw [Nat.sub_self] at pr
          refine .inl ⟨⟨_, by rw [hK]; exact SqL.of hob, by rw [List.length_map]; exact Nat.le_refl _⟩, pr σ' Hc _ _ leFr srr⟩
      | _ => exact p.elim
end
end DL
set_option Elab.async false
set_option linter.all false
set_option maxRecDepth 100000
set_option maxHeartbeats 2000000
namespace DL
open PySem PySem.Spec PyProof.Rows L2 L2H HotX LamX
section
variable {X : Cx} {S : Gd} {W : WX} {o e a b : Expr} {m : M D} {l : M (List D)} {apos cpos pos p2 pt px py : Pos} {j : Nat}
def sPar (i j : Nat) (l : M (List D)) : DL.Env → Fl := fun env => (l env).fl fun ds e => match ds with
  | [d1, d2] => .nx ((e.set i (.dat d1)).set j (.dat d2))
  | _ => .bad
theorem ds_par {i j : Nat} {x y : Str} {kt k2} {pt2 : Pos} (hc : X.calm = true) (hN : X.N.Nodup) (hi : X.N[i]? = some x) (hj : X.N[j]? = some y) (hij : i ≠ j) (hx : X.env.scope.names.lookup x = some .local) (hy : X.env.scope.names.lookup y = some .local) (ha : PA X [a, b] (tL S W l))
    (hw : swappedStores [.Tuple [.Name x px, .Name y py] kt pt] (.Tuple [a, b] k2 pt2) X.env = pure (some [x, y]) := by rfl)
    (hs : swapsWithSole [.Tuple [.Name x px, .Name y py] kt pt] (.Tuple [a, b] k2 pt2) pos.line X.env = pure false := by rfl) :
    PS X (.Assign [.Tuple [.Name x px, .Name y py] kt pt] (.Tuple [a, b] k2 pt2) pos) (tS S W (sPar i j l)) :=
  PS.imp (ps_par hc hN hi hj hij hx hy ha hw hs) fun d σ H ⟨F, env, ad, sr, p⟩ => ⟨F, env, ad, sr, (Post.fl p).imp fun ds e1 H1 F1 ad1 le1 sr1 q vs rs => by
    cases rs with
    | nil => exact q.elim
    | cons h1 t =>
      cases t with
      | nil => exact q.elim
      | cons h2 t2 =>
        cases t2 with
        | nil => exact ⟨_, _, rfl, q _ H1 F1 _ (Le.refl F1) ((sr1.store i h1).store j h2)⟩
        | cons _ _ => exact q.elim⟩
end
end DL
set_option Elab.async false
set_option linter.all false
set_option maxRecDepth 100000
set_option maxHeartbeats 2000000
namespace DL
open PySem PySem.Spec PyProof.Rows L2 L2H HotX LamX
theorem _root_.L2H.RoomH.units {k : Nat} {A : Around} (r : RoomH k A) : A.units + 64 < cLine := by have := r.un; omega
theorem _root_.L2H.RoomH.u65 {k : Nat} {A : Around} (r : RoomH k A) : A.units + 65 < cLine := by have := r.un; omega
def exNames : List Str := ["BadPattern", "BadText", "BadWord", "BadPosition", "BadLength", "BadDegree", "BadBudget", "BadSyntax", "TooMany", "NothingToUndo"]
def excB (K : PySem.W.Frag) (D : Addr) : Bool :=
  decide (PySem.W.findIn K (.ref D) "__getattribute__" = some (some (.builtin "BaseException.__getattribute__"))) && decide (PySem.W.findIn K (.ref D) "__getattr__" = some none) && decide (PySem.W.subIn K (.ref D) (.type "BaseException") = some true) && PySem.W.hasDictIn K D &&
  decide (PySem.W.findIn K (.ref D) "__class__" = some (some (.builtin "object.__class__"))) && decide (PySem.W.specialIn K (.builtin "object.__class__") "__get__" = some (some (.builtin "getset_descriptor.__get__"))) && decide (PySem.W.takesIn K (.builtin "object.__class__") = some true) && decide (PySem.W.mroIn K D (.type "object") = some true)
theorem excB_ok {K : PySem.W.Frag} {D : Addr} (h : excB K D = true) : ExcC K D := by
  unfold excB at h
  simp only [Bool.and_eq_true, decide_eq_true_eq] at h
  obtain ⟨⟨⟨⟨⟨⟨⟨h1, h2⟩, h3⟩, h4⟩, h5⟩, h6⟩, h7⟩, h8⟩ := h
  exact ⟨h1, h2, h3, h4, h5, h6, h7, h8⟩
def exB (K : PySem.W.Frag) : Bool := exNames.all fun c => excB K (He.ga K c) && (exNames.all fun c' => decide (PySem.W.kitOne K (.ref (He.ga K c)) (.ref (He.ga K c')) = some (decide (c = c')))) && (decide (PySem.W.kitOne K (.ref (He.ga K c)) (.type "ValueError") = some true) && decide (PySem.W.exmOne K (.ref (He.ga K c)) (.ref (He.ga K "StepError")) = some true))
section
variable {K : PySem.W.Frag} {c c' : Str}
theorem exB_at (h : exB K = true) (hc : c ∈ exNames) : ExcC K (He.ga K c) ∧ (∀ c' ∈ exNames, PySem.W.kitOne K (.ref (He.ga K c)) (.ref (He.ga K c')) = some (decide (c = c'))) ∧ PySem.W.kitOne K (.ref (He.ga K c)) (.type "ValueError") = some true ∧ PySem.W.exmOne K (.ref (He.ga K c)) (.ref (He.ga K "StepError")) = some true := by
  have h1 := List.all_eq_true.mp h c hc
  simp only [Bool.and_eq_true, decide_eq_true_eq] at h1
  obtain ⟨⟨h2, h3⟩, h4, h5⟩ := h1
  exact ⟨excB_ok h2, fun c' hc' => of_decide_eq_true (List.all_eq_true.mp h3 c' hc'), h4, h5⟩
end
end DL
set_option Elab.async false
set_option linter.all false
set_option maxRecDepth 100000
set_option maxHeartbeats 4000000
namespace DLZ
open PySem PySem.Spec PyProof.Rows L2
abbrev IsZipO (h : Heap) (z TI TO T : Addr) (b : Bool) : Prop :=
  h.get? z = some { cls := .type "zip", dict := none, data := .fields #[rawInt (T : Nat), .bool b, .bool false, .ref TI, .ref TO], slots := #[] }
section
variable {prog : Program} {w : World} {A : Around} {E : Value → Shared → Prop} {s : Shared}
theorem wpAny_alive {a : Addr} {Q : Option Obj → Shared → Prop} (h : Q (s.heap.get? a) s) : wpAny (model prog w) A (loadIfAlive a) Q E s := fun Γ p _ => by
  unfold loadIfAlive
  rw [Sem.wp]
  exact h
theorem owned_out {z TI TO T : Addr} {b : Bool} {o : Obj} {Q : Bool → Shared → Prop} (hz : IsZipO s.heap z TI TO T b) (hT : s.heap.get? T = some o)
    (hQ : ∀ h', IsZipO h' z TI TO T true → Heap.SameBut z s.heap h' → Q false { s with heap := h' }) : wpAny (model prog w) A (Builtin.SmallTypes.ownedTupleIsFree (.ref z)) Q E s := by
  unfold Builtin.SmallTypes.ownedTupleIsFree
  refine wpAny_bind (wpAny_field hz rfl (x := rawInt (T : Nat)) rfl ?_)
  show wpAny _ _ (loadIfAlive (T : Int).toNat >>= _) _ _ _
  refine wpAny_bind (wpAny_alive ?_)
  rw [show ((T : Nat) : Int).toNat = T from rfl, hT]
  simp only [Option.isNone_some, Bool.false_eq_true, if_false]
  refine wpAny_bind (wpAny_field hz rfl (x := .bool b) rfl ?_)
  cases b with
  | true =>
    rw [if_neg (by decide)]
    exact wpAny_pure (hQ _ hz (Heap.SameBut.refl ..))
  | false =>
    rw [if_pos (by decide)]
    refine wpAny_bind (wpAny_setField_rec hz (by simp) fun h₁ hz₁ hs₁ => ?_)
    exact wpAny_pure (hQ _ hz₁ hs₁)
theorem zipO_next_item {z TI TO T i1 i2 : Addr} {fp1 fp2 : List Addr} {n1 n2 k : Nat} {P1 P2 : Nat → Value → Prop} {S1 S2 : Nat → Heap → Prop} {b : Bool} {o : Obj} {Q : Value → Shared → Prop} (D : Apart z TI TO i1 i2 fp1 fp2)
    (D1 : Draws prog w A i1 fp1 n1 P1 S1) (D2 : Draws prog w A i2 fp2 n2 P2 S2)
    (hz : IsZipO s.heap z TI TO T b) (hTI : IsPair s.heap TI (.ref i1) (.ref i2)) (hT : s.heap.get? T = some o) (h1 : S1 k s.heap) (h2 : S2 k s.heap) (hx : k < n1) (hy : k < n2)
    (hQ : ∀ x y h' tk, P1 k x → P2 k y → IsZipO h' z TI TO T true → S1 (k + 1) h' → S2 (k + 1) h' → IsPair h' s.heap.objs.size x y → h'.objs.size = s.heap.objs.size + 1 →
      (∀ c o, c ≠ z → c ≠ i1 → c ≠ i2 → s.heap.get? c = some o → h'.get? c = some o) → Q (.ref s.heap.objs.size) { s with heap := h', toks := tk }) :
    wpAny (model prog w) A (Builtin.«zip.__next__» ⟨[.ref z], []⟩) (fun fin s' => ∃ v, fin = .done (.ret v) ∧ Q v s') E s := by
  show wpAny _ _ (field (.ref z) 2 >>= _) _ _ _
  refine wpAny_bind (wpAny_field hz rfl (x := .bool false) rfl ?_)
  show wpAny _ _ (field (.ref z) 3 >>= _) _ _ _
  refine wpAny_bind (wpAny_field hz rfl (x := .ref TI) rfl ?_)
  refine wpAny_bind (wpAny_seqItems hTI rfl ?_)
  show wpAny _ _ (Builtin.SmallTypes.ownedTupleIsFree (.ref z) >>= _) _ _ _
  refine wpAny_bind (owned_out hz hT fun h₁ hz₁ hs₁ => ?_)
  simp only [Bool.false_eq_true, if_false]
  refine wpAny_bind ?_
  simp only [Array.forIn_toList.symm, List.forIn_cons, List.forIn_nil]
  refine wpAny_bind (wpAny_bind (wpAny_holding ?_))
  show wpAny _ _ (Builtin.SmallTypes.nextOf (.ref i1) >>= _) _ _ _
  refine wpAny_bind (D1.item k _ _ _ hx (D1.frame _ _ _ h1 fun c hc o e => hs₁.extBut _ _ (fun q => D.z1 (q ▸ hc)) e) fun x h₂ tk1 px h1₂ hs₂ => wpAny_pure ?_)
  replace hs₂ : Heap.SameBut i1 h₁ h₂ := hs₂
  refine wpAny_pure ?_
  refine wpAny_bind (wpAny_bind (wpAny_holding ?_))
  show wpAny _ _ (Builtin.SmallTypes.nextOf (.ref i2) >>= _) _ _ _
  refine wpAny_bind (D2.item k _ _ _ hy (D2.frame _ _ _ h2 fun c hc o e => hs₂.extBut _ _ (fun q => D.i1f (q ▸ hc)) (hs₁.extBut _ _ (fun q => D.z2 (q ▸ hc)) e)) fun y h₃ tk2 py h2₃ hs₃ => wpAny_pure ?_)
  replace hs₃ : Heap.SameBut i2 h₂ h₃ := hs₃
  refine wpAny_pure (wpAny_pure ?_)
  refine wpAny_bind (wpAny_newTuple (hsz := by show 2 ≤ sizeLine; decide) ?_)
  have hsz : h₃.objs.size = s.heap.objs.size := by rw [hs₃.1, hs₂.1, hs₁.1]
  have hk : ∀ c o, c ≠ z → c ≠ i1 → c ≠ i2 → s.heap.get? c = some o → (h₃.push { cls := .type "tuple", data := .seq #[x, y] }).get? c = some o := fun c o c1 c2 c3 e =>
    Heap.get?_push_of_some _ (hs₃.extBut _ _ c3 (hs₂.extBut _ _ c2 (hs₁.extBut _ _ c1 e)))
  refine wpAny_pure ⟨_, rfl, ?_⟩
  show Q (.ref h₃.objs.size) _
  have hp : IsPair (h₃.push { cls := .type "tuple", data := .seq #[x, y] }) h₃.objs.size x y := Heap.get?_push_size _ rfl
  have hq : (h₃.push { cls := .type "tuple", data := .seq #[x, y] }).objs.size = h₃.objs.size + 1 := Heap.size_push ..
  rw [hsz] at hp hq ⊢
  exact hQ x y _ _ px py (Heap.get?_push_of_some _ (hs₃.extBut _ _ D.i2z.symm (hs₂.extBut _ _ D.i1z.symm hz₁)))
    (D1.frame _ _ _ h1₂ fun c hc o e => Heap.get?_push_of_some _ (hs₃.extBut _ _ (fun q => D.i21 (q ▸ hc)) e)) (D2.frame _ _ _ h2₃ fun c hc o e => Heap.get?_push_of_some _ e) hp hq hk
theorem zipO_next_end {z TI TO T i1 i2 : Addr} {fp1 fp2 : List Addr} {n1 n2 k : Nat} {P1 P2 : Nat → Value → Prop} {S1 S2 : Nat → Heap → Prop} {b : Bool} {o : Obj} {Q : Fin → Shared → Prop} (D : Apart z TI TO i1 i2 fp1 fp2)
    (D1 : Draws prog w A i1 fp1 n1 P1 S1) (D2 : Draws prog w A i2 fp2 n2 P2 S2)
    (hz : IsZipO s.heap z TI TO T b) (hTI : IsPair s.heap TI (.ref i1) (.ref i2)) (hT : s.heap.get? T = some o) (h1 : S1 k s.heap) (h2 : S2 k s.heap) (hend : k = n1 ∨ (k < n1 ∧ k = n2))
    (hE : ∀ h' e tk, (∀ c o, c ≠ z → c ≠ i1 → c ≠ i2 → s.heap.get? c = some o → h'.get? c = some o) → (∃ o, h'.get? e = some o ∧ o.cls = .type "StopIteration") → E (.ref e) { s with heap := h', toks := tk }) :
    wpAny (model prog w) A (Builtin.«zip.__next__» ⟨[.ref z], []⟩) Q E s := by
  show wpAny _ _ (field (.ref z) 2 >>= _) _ _ _
  refine wpAny_bind (wpAny_field hz rfl (x := .bool false) rfl ?_)
  show wpAny _ _ (field (.ref z) 3 >>= _) _ _ _
  refine wpAny_bind (wpAny_field hz rfl (x := .ref TI) rfl ?_)
  refine wpAny_bind (wpAny_seqItems hTI rfl ?_)
  show wpAny _ _ (Builtin.SmallTypes.ownedTupleIsFree (.ref z) >>= _) _ _ _
  refine wpAny_bind (owned_out hz hT fun h₁ hz₁ hs₁ => ?_)
  simp only [Bool.false_eq_true, if_false]
  refine wpAny_bind ?_
  simp only [Array.forIn_toList.symm, List.forIn_cons, List.forIn_nil]
  refine wpAny_bind (wpAny_bind (wpAny_holding ?_))
  show wpAny _ _ (Builtin.SmallTypes.nextOf (.ref i1) >>= _) _ _ _
  have f1 : S1 k h₁ := D1.frame _ _ _ h1 fun c hc o e => hs₁.extBut _ _ (fun q => D.z1 (q ▸ hc)) e
  rcases hend with hk | ⟨hk, hk2⟩
  · subst hk
    refine wpAny_bind (D1.done _ _ _ f1 fun h₂ e hs₂ he => ?_)
    replace hs₂ : Heap.ExtBut i1 h₁ h₂ := hs₂
    exact hE h₂ e _ (fun c o c1 c2 _ x => hs₂ _ _ c2 (hs₁.extBut _ _ c1 x)) he
  · subst hk2
    refine wpAny_bind (D1.item k _ _ _ hk f1 fun x h₂ tk1 px h1₂ hs₂ => wpAny_pure ?_)
    replace hs₂ : Heap.SameBut i1 h₁ h₂ := hs₂
    refine wpAny_pure ?_
    refine wpAny_bind (wpAny_bind (wpAny_holding ?_))
    show wpAny _ _ (Builtin.SmallTypes.nextOf (.ref i2) >>= _) _ _ _
    refine wpAny_bind (D2.done _ _ _ (D2.frame _ _ _ h2 fun c hc o e => hs₂.extBut _ _ (fun q => D.i1f (q ▸ hc)) (hs₁.extBut _ _ (fun q => D.z2 (q ▸ hc)) e)) fun h₃ e hs₃ he => ?_)
    replace hs₃ : Heap.ExtBut i2 h₂ h₃ := hs₃
    exact hE h₃ e _ (fun c o c1 c2 c3 x => hs₃ _ _ c3 (hs₂.extBut _ _ c2 (hs₁.extBut _ _ c1 x))) he
structure ZSt (z TI TO i1 i2 : Addr) (S1 S2 : Nat → Heap → Prop) (k : Nat) (h : Heap) : Prop where
  ti : IsPair h TI (.ref i1) (.ref i2)
  s1 : S1 k h
  s2 : S2 k h
  lt : TO < h.objs.size
  zz : (IsZip h z TI TO .none ∧ ∃ a b, IsPair h TO a b) ∨ ∃ T b x y, IsZipO h z TI TO T b ∧ IsPair h T x y ∧ T ≠ z ∧ T ≠ i1 ∧ T ≠ i2
theorem pyNext_zip_item {z TI TO i1 i2 : Addr} {fp1 fp2 : List Addr} {n1 n2 k : Nat} {P1 P2 : Nat → Value → Prop} {S1 S2 : Nat → Heap → Prop} {Q : Option Value → Shared → Prop} (D : Apart z TI TO i1 i2 fp1 fp2)
    (D1 : Draws prog w A.in1 i1 fp1 n1 P1 S1) (D2 : Draws prog w A.in1 i2 fp2 n2 P2 S2) (hs : ZSt z TI TO i1 i2 S1 S2 k s.heap) (hx : k < n1) (hy : k < n2)
    (hQ : ∀ x y h' tk, P1 k x → P2 k y → ZSt z TI TO i1 i2 S1 S2 (k + 1) h' → IsPair h' s.heap.objs.size x y → h'.objs.size = s.heap.objs.size + 1 →
      (∀ c o, c ≠ z → c ≠ TO → c ≠ i1 → c ≠ i2 → s.heap.get? c = some o → h'.get? c = some o) → Q (some (.ref s.heap.objs.size)) { s with heap := h', toks := tk }) :
    wpAny (model prog w) A (pyNext (.ref z)) Q E s := by
  obtain ⟨hTI, h1, h2, hlt, hz | ⟨T, b, x0, y0, hz, hT, zT, q1, q2⟩⟩ := hs
  · obtain ⟨hz, a, b, hTO⟩ := hz
    have lz : z < s.heap.objs.size := Heap.lt_size hz
    obtain ⟨o1, e1⟩ := D1.live _ _ h1
    obtain ⟨o2, e2⟩ := D2.live _ _ h2
    refine pyNext_zipG_item D D1 D2 hz hTI hTO h1 h2 hx hy fun x y h' tk px py a1 a2 a3 a4 a5 a6 a7 => hQ x y h' tk px py ⟨a7 _ _ D.TIz D.TITO D.TIi1 D.TIi2 hTI, a3, a4, by rw [a6]; exact Nat.lt_succ_of_lt hlt, .inr ⟨_, false, x, y, a1, a5, Nat.ne_of_gt lz, Nat.ne_of_gt (Heap.lt_size e1), Nat.ne_of_gt (Heap.lt_size e2)⟩⟩ a5 a6 a7
  · have hT2 : s.TypeIs (.ref z) "zip" := ⟨_, hz, rfl⟩
    unfold pyNext
    exact wpAny_bind (wpAny_attempt (wpAny_callSpecial?_slot (name := Str.ofString "__next__") hT2 F.slot_zip_next
      (wpAny_call_entry F.slot_zip_next hT2 F.entry_zip_next
        (zipO_next_item D D1 D2 hz hTI hT h1 h2 hx hy fun x y h' tk px py a1 a3 a4 a5 a6 a7 => wpAny_pure (hQ x y h' tk px py ⟨a7 _ _ D.TIz D.TIi1 D.TIi2 hTI, a3, a4, by rw [a6]; exact Nat.lt_succ_of_lt hlt, .inr ⟨T, true, x0, y0, a1, a7 _ _ zT q1 q2 hT, zT, q1, q2⟩⟩ a5 a6 fun c o c1 _ c3 c4 e => a7 c o c1 c3 c4 e)) (F.args_zip_next_1 _))))
theorem pyNext_zip_end {z TI TO i1 i2 : Addr} {fp1 fp2 : List Addr} {n1 n2 k : Nat} {P1 P2 : Nat → Value → Prop} {S1 S2 : Nat → Heap → Prop} {Q : Option Value → Shared → Prop} (D : Apart z TI TO i1 i2 fp1 fp2)
    (D1 : Draws prog w A.in1 i1 fp1 n1 P1 S1) (D2 : Draws prog w A.in1 i2 fp2 n2 P2 S2) (hs : ZSt z TI TO i1 i2 S1 S2 k s.heap) (hend : k = n1 ∨ (k < n1 ∧ k = n2))
    (hQ : ∀ h' tk, (∀ c o, c ≠ z → c ≠ TO → c ≠ i1 → c ≠ i2 → s.heap.get? c = some o → h'.get? c = some o) → Q none { s with heap := h', toks := tk }) : wpAny (model prog w) A (pyNext (.ref z)) Q E s := by
  obtain ⟨hTI, h1, h2, hlt, hz | ⟨T, b, x0, y0, hz, hT, zT, q1, q2⟩⟩ := hs
  · obtain ⟨hz, a, b, hTO⟩ := hz
    exact pyNext_zipG_end D D1 D2 hz hTI hTO h1 h2 hend hQ
  · have hT2 : s.TypeIs (.ref z) "zip" := ⟨_, hz, rfl⟩
    unfold pyNext
    refine wpAny_bind (wpAny_attempt (wpAny_callSpecial?_slot (name := Str.ofString "__next__") hT2 F.slot_zip_next
      (wpAny_call_entry F.slot_zip_next hT2 F.entry_zip_next (zipO_next_end D D1 D2 hz hTI hT h1 h2 hend fun h' e tk hk he => ?_) (F.args_zip_next_1 _))))
    obtain ⟨o, ho, hc⟩ := he
    refine wpAny_bind (wpAny_isInstance (T := "StopIteration") (b := true) ⟨o, ho, hc⟩ isSubtype_stop ?_)
    exact wpAny_pure (hQ _ _ fun c o c1 _ c3 c4 e => hk c o c1 c3 c4 e)
end
end DLZ
set_option Elab.async false
set_option linter.all false
set_option maxRecDepth 100000
set_option maxHeartbeats 4000000
namespace DL
open PySem PySem.Spec PyProof.Rows L2 DLZ
theorem sizeLine_big : 2000000 ≤ sizeLine := by decide +kernel
namespace Src
variable {X : Cx} {pins : List (Addr × Obj)} {σ : L2.St} {H : Hp} {s : Shared} {xs : List V}
theorem drawsA {A : Around} (hh : A.handled = none) (I : Inv X pins σ H s) (it : Addr) (t : Tok) : ∀ {S : Src}, S.At X.K H xs → it ∉ S.ad → ∃ (P : Nat → Value → Prop) (G : Nat → Heap → Prop), Draws X.prog X.w A it (it :: S.ad) xs.length P G ∧
    (∀ i, S.Iter it t i s.heap → G i s.heap) ∧ (∀ i h, G i h → S.Iter it t i h) ∧ ∀ k u, P k u → ∃ x, xs[k]? = some x ∧ RelV x u
  | .lst a, q, hn => by
    obtain ⟨its, rv, p, _⟩ := I.list q
    have e := rv.length
    refine ⟨fun i v => its.toArray[i]? = some v, fun i h => h.IsListIter it a i ∧ h.IsList a its.toArray, by rw [e]; exact Draws.list hh it a (fun z => hn (by rw [ad, z]; simp)) its.toArray, fun i h => ⟨h, p.isList⟩, fun i h z => z.1, fun k u z => ?_⟩
    have z' : its[k]? = some u := by simpa using z
    have hk : k < xs.length := by rw [e]; exact (List.getElem?_eq_some_iff.mp z').1
    obtain ⟨u', e1, e2⟩ := rv.get (List.getElem?_eq_getElem hk)
    rw [z'] at e1
    cases e1
    exact ⟨_, List.getElem?_eq_getElem hk, e2⟩
  | .tup a, q, hn => by
    obtain ⟨its, rv, p, _⟩ := I.tuple q
    have e := rv.length
    refine ⟨fun i v => its.toArray[i]? = some v, fun i h => h.IsTupleIter it a i ∧ h.IsTuple a its.toArray, by rw [e]; exact DLZ.Draws.tuple hh it a (fun z => hn (by rw [ad, z]; simp)) its.toArray, fun i h => ⟨h, p⟩, fun i h z => z.1, fun k u z => ?_⟩
    have z' : its[k]? = some u := by simpa using z
    have hk : k < xs.length := by rw [e]; exact (List.getElem?_eq_some_iff.mp z').1
    obtain ⟨u', e1, e2⟩ := rv.get (List.getElem?_eq_getElem hk)
    rw [z'] at e1
    cases e1
    exact ⟨_, List.getElem?_eq_getElem hk, e2⟩
  | .txt z, q, hn => by
    have q : xs = z.cps.toList.map fun c => V.str ⟨#[c]⟩ := q
    have e : xs.length = z.cps.size := by rw [q]; simp
    have fin : ∀ k u, (∃ c t, z.cps[k]? = some c ∧ u = Value.str ⟨#[c]⟩ t) → ∃ x, xs[k]? = some x ∧ RelV x u := fun k u hu => by
      obtain ⟨c, t, e1, e2⟩ := hu
      refine ⟨.str ⟨#[c]⟩, ?_, ⟨t, e2⟩⟩
      rw [q, List.getElem?_map, Array.getElem?_toList, e1]
      rfl
    cases ha : z.cps.all (· < 128) with
    | true =>
      have et : strIterType z = "str_ascii_iterator" := by unfold strIterType; rw [ha]; rfl
      exact ⟨_, _, by rw [e]; exact Draws.strAscii hh it z t, fun i h => by have h : s.heap.IsStrIter it (strIterType z) z t i := h; rw [et] at h; exact h, fun i h g => by show h.IsStrIter it (strIterType z) z t i; rw [et]; exact g, fin⟩
    | false =>
      have et : strIterType z = "str_iterator" := by unfold strIterType; rw [ha]; rfl
      exact ⟨_, _, by rw [e]; exact Draws.strWide hh it z t, fun i h => by have h : s.heap.IsStrIter it (strIterType z) z t i := h; rw [et] at h; exact h, fun i h g => by show h.IsStrIter it (strIterType z) z t i; rw [et]; exact g, fin⟩
theorem At.le {K : PySem.W.Frag} {H' : Hp} (le : Le H H') : ∀ {S : Src}, S.At K H xs → S.At K H' xs
  | .lst a, q => le.l q
  | .tup a, q => le.t q
  | .txt z, q => q
end Src
inductive LayT (H : Hp) : List (V × V) → List Addr → Hp → Prop
  | nil : LayT H [] [] H
  | snoc {ps : List (V × V)} {Ts : List Addr} {H1 : Hp} {T : Addr} {x y : V} : LayT H ps Ts H1 → H1 T = none → LayT H (ps ++ [(x, y)]) (Ts ++ [T]) (upd H1 T (.tup [x, y]))
theorem LayT.len {H H1 : Hp} {ps : List (V × V)} {Ts : List Addr} (h : LayT H ps Ts H1) : Ts.length = ps.length := by
  induction h with
  | nil => rfl
  | snoc _ _ ih => simp [ih]
theorem LayT.le {H H1 : Hp} {ps : List (V × V)} {Ts : List Addr} (h : LayT H ps Ts H1) : Le H H1 := by
  induction h with
  | nil => exact Le.refl _
  | snoc _ hn ih => exact ih.trans (Le.new hn)
theorem upd_swap {H : Hp} {a b : Addr} {o u : HO} (h : a ≠ b) : upd (upd H a o) b u = upd (upd H b u) a o := by
  funext x
  by_cases h1 : x = a
  · subst h1
    rw [upd_ne h, upd_same, upd_same]
  · by_cases h2 : x = b
    · subst h2
      rw [upd_same, upd_ne h1, upd_same]
    · rw [upd_ne h2, upd_ne h1, upd_ne h1, upd_ne h2]
theorem upd_twice {H : Hp} {a : Addr} {o u : HO} : upd (upd H a o) a u = upd H a u := by
  funext x
  by_cases h1 : x = a
  · subst h1
    rw [upd_same, upd_same]
  · rw [upd_ne h1, upd_ne h1, upd_ne h1]
section
variable {X : Cx} {pins : List (Addr × Obj)} {σ : L2.St} {a b : Src} {t1 t2 : Tok} {z TI TO i1 i2 S : Addr} {xs ys : List V} {res : Value} {R : Result → Shared → Prop} {H : Hp} {A : Around}
theorem loop_zip (hh : A.handled = none) (D : Apart z TI TO i1 i2 (i1 :: a.ad) (i2 :: b.ad)) (n1 : i1 ∉ a.ad) (n2 : i2 ∉ b.ad) (hqa : a.At X.K H xs) (hqb : b.At X.K H ys) (hsz : xs.length ≤ 1000000)
    (fin : ∀ s' H1 Ts, LayT H (xs.zip ys) Ts H1 → H1 S = none → Inv X pins σ (upd H1 S (.lst (Ts.map V.ref))) s' → R (.ok (.ret res)) s') :
    ∀ (m k : Nat) (s : Shared) (H1 : Hp) (Ts : List Addr), min xs.length ys.length - k = m → k ≤ min xs.length ys.length → LayT H ((xs.zip ys).take k) Ts H1 → H1 S = none → Inv X pins σ (upd H1 S (.lst (Ts.map V.ref))) s →
      ZSt z TI TO i1 i2 (a.Iter i1 t1) (b.Iter i2 t2) k s.heap → (∀ c ∈ [z, TI, TO, i1, i2], FpOk X pins (upd H1 S (.lst (Ts.map V.ref))) c) → codeAny (model X.prog X.w) A (.builtin "list.extend.loop" ⟨[.ref S, .ref z, res], []⟩) R s := by
  have hh2 : A.in1.in1.handled = none := hh
  intro m
  induction m with
  | zero =>
    intro k s H1 Ts hm hk lay hS I zs hf
    have hkn : k = min xs.length ys.length := by omega
    have le1 : Le H (upd H1 S (.lst (Ts.map V.ref))) := lay.le.trans (Le.new hS)
    obtain ⟨P1, G1, D1, g1, k1, r1⟩ := Src.drawsA hh2 I i1 t1 (Src.At.le le1 hqa) n1
    obtain ⟨P2, G2, D2, g2, k2, r2⟩ := Src.drawsA hh2 I i2 t2 (Src.At.le le1 hqb) n2
    refine codeAny_builtin F.entry_extend_loop ?_
    rw [Around.under_plainId F.plain_extend_loop _]
    show wpAny _ A.in1 (pyNext (.ref z) >>= _) _ _ s
    refine wpAny_bind (pyNext_zip_end D D1 D2 (k := k) ⟨zs.ti, g1 k zs.s1, g2 k zs.s2, zs.lt, zs.zz⟩ (by omega) fun h' tk hkp => ?_)
    refine wpAny_pure (fin _ H1 Ts ?_ hS (I.turnedL (t' := tk) (ch := [z, TI, TO, i1, i2]) (fun c o hb q => ?_) hf))
    · rw [List.take_of_length_le (by rw [List.length_zip]; omega)] at lay
      exact lay
    · have nb : c ≠ z ∧ c ≠ TI ∧ c ≠ TO ∧ c ≠ i1 ∧ c ≠ i2 := by simpa using hb
      exact hkp c o nb.1 nb.2.2.1 nb.2.2.2.1 nb.2.2.2.2 q
  | succ m ih =>
    intro k s H1 Ts hm hk lay hS I zs hf
    have hkx : k < xs.length := by omega
    have hky : k < ys.length := by omega
    have le1 : Le H (upd H1 S (.lst (Ts.map V.ref))) := lay.le.trans (Le.new hS)
    obtain ⟨P1, G1, D1, g1, k1, r1⟩ := Src.drawsA hh2 I i1 t1 (Src.At.le le1 hqa) n1
    obtain ⟨P2, G2, D2, g2, k2, r2⟩ := Src.drawsA hh2 I i2 t2 (Src.At.le le1 hqb) n2
    refine codeAny_builtin F.entry_extend_loop ?_
    rw [Around.under_plainId F.plain_extend_loop _]
    show wpAny _ A.in1 (pyNext (.ref z) >>= _) _ _ s
    refine wpAny_bind (pyNext_zip_item D D1 D2 (k := k) ⟨zs.ti, g1 k zs.s1, g2 k zs.s2, zs.lt, zs.zz⟩ hkx hky fun u u2 h' tk p1 p2 zs2 hT hsz2 hkp => ?_)
    obtain ⟨x, ex, rx⟩ := r1 k u p1
    obtain ⟨y, ey, ry⟩ := r2 k u2 p2
    have zlt : z < s.heap.objs.size := by
      rcases zs.zz with ⟨q, _⟩ | ⟨_, _, _, _, q, _⟩ <;> exact Heap.lt_size q
    have hTn : (upd H1 S (.lst (Ts.map V.ref))) s.heap.objs.size = none := I.hok.fresh (Nat.le_refl _)
    have hST : S ≠ s.heap.objs.size := fun q => by
      rw [← q, upd_same] at hTn
      cases hTn
    have hTn1 : H1 s.heap.objs.size = none := by
      rw [upd_ne (Ne.symm hST)] at hTn
      exact hTn
    have I1 : Inv X pins σ (upd (upd H1 S (.lst (Ts.map V.ref))) s.heap.objs.size (.tup [x, y])) { s with heap := h', toks := tk } := by
      refine I.turnedNew (t' := tk) (ch := [z, TI, TO, i1, i2]) (fun c o hb q => ?_) hf (Nat.le_refl _) ⟨by show 2 ≤ sizeLine; decide, [u, u2], .cons rx (.cons ry .nil), ⟨_, hT, rfl, _, rfl⟩⟩
      have nb : c ≠ z ∧ c ≠ TI ∧ c ≠ TO ∧ c ≠ i1 ∧ c ≠ i2 := by simpa using hb
      exact hkp c o nb.1 nb.2.2.1 nb.2.2.2.1 nb.2.2.2.2 q
    rw [upd_swap hST] at I1
    obtain ⟨hz', its, c, ri, e⟩ := I1.hok S _ upd_same
    have hl := ri.length
    rw [List.length_map, lay.len, List.length_take, List.length_zip] at hl
    have hil : its.length = k := by omega
    have big := sizeLine_big
    show wpAny _ A.in1 (updateSeq S (·.push (.ref s.heap.objs.size)) >>= _) _ _ _
    refine wpAny_bind (wpAny_updateSeq e rfl ?_ (by rw [List.size_toArray]; omega) (by rw [Array.size_push, List.size_toArray]; omega))
    have I2 : Inv X pins σ (upd (upd (upd H1 s.heap.objs.size (.tup [x, y])) S (.lst (Ts.map V.ref))) S (.lst ((Ts ++ [s.heap.objs.size]).map V.ref))) { s with heap := h'.update S (Obj.mapSeq (·.push (.ref s.heap.objs.size))), toks := tk } := by
      refine I1.write (x := S) (e := S) (t' := tk) (by rw [upd_same]; trivial) (.inl rfl) (fun b u hb q => (Heap.get?_update_other _ _ (Ne.symm hb)).trans q) ⟨_, Heap.get?_update_self _ e rfl⟩ ⟨?_, its ++ [.ref s.heap.objs.size], c + 1, ?_, ?_⟩
      · rw [List.length_map, List.length_append, lay.len, List.length_take, List.length_zip]
        simp only [List.length_cons, List.length_nil]
        omega
      · rw [List.map_append]
        exact ri.append (.cons rfl .nil)
      · show (h'.update S (Obj.mapSeq (·.push (.ref s.heap.objs.size)))).get? S = _
        rw [Heap.get?_update_self _ e rfl]
        simp [Obj.mapSeq]
    rw [upd_twice] at I2
    have hS2 : upd H1 s.heap.objs.size (.tup [x, y]) S = none := by rw [upd_ne hST]; exact hS
    have lay2 : LayT H ((xs.zip ys).take (k + 1)) (Ts ++ [s.heap.objs.size]) (upd H1 s.heap.objs.size (.tup [x, y])) := by
      have e4 : (xs.zip ys).take (k + 1) = (xs.zip ys).take k ++ [(x, y)] := by
        rw [List.take_succ, List.getElem?_zip_eq_some (z := (x, y)) |>.mpr ⟨ex, ey⟩]
        rfl
      rw [e4]
      exact .snoc lay hTn1
    have oth : ∀ b o, b ≠ S → h'.get? b = some o → (h'.update S (Obj.mapSeq (·.push (.ref s.heap.objs.size)))).get? b = some o := fun b o hb q => (Heap.get?_update_other _ _ (Ne.symm hb)).trans q
    have nS : ∀ c ∈ [z, TI, TO, i1, i2], c ≠ S := fun c hc q => by
      have := (hf c hc).1
      rw [q, upd_same] at this
      cases this
    refine wpAny_pure ⟨plainId_quiet F.plain_extend_loop _, ih (k + 1) _ _ _ (by omega) (by omega) lay2 hS2 I2 ?_ ?_⟩
    · have sz2 : (h'.update S (Obj.mapSeq (·.push (.ref s.heap.objs.size)))).objs.size = h'.objs.size := (Heap.SameBut.update ..).1
      refine ⟨oth _ _ (nS TI (by simp)) zs2.ti, Src.keep (fun o q => oth _ _ (nS i1 (by simp)) q) (k1 _ _ zs2.s1), Src.keep (fun o q => oth _ _ (nS i2 (by simp)) q) (k2 _ _ zs2.s2), by show TO < _; rw [sz2]; exact zs2.lt, ?_⟩
      rcases zs2.zz with ⟨q1, p, q, q2⟩ | ⟨T, w, p, q, q1, q2, q3⟩
      · exact .inl ⟨oth _ _ (nS z (by simp)) q1, p, q, oth _ _ (nS TO (by simp)) q2⟩
      · refine .inr ⟨T, w, p, q, oth _ _ (nS z (by simp)) q1, oth _ _ (fun j => ?_) q2, q3⟩
        have q2' : h'.get? T = some { cls := .type "tuple", data := .seq #[p, q] } := q2
        rw [j] at q2'
        have e' : h'.get? S = _ := e
        rw [e'] at q2'
        have q5 : Value.type "list" = Value.type "tuple" := congrArg Obj.cls (Option.some.inj q2')
        injection q5 with q6
        exact absurd q6 (by decide)
    · intro c hc
      have clt : c < s.heap.objs.size := by
        have e' : c = z ∨ c = TI ∨ c = TO ∨ c = i1 ∨ c = i2 := by simpa using hc
        rcases e' with q | q | q | q | q
        · subst q; exact zlt
        · subst q; exact Heap.lt_size zs.ti
        · subst q; exact zs.lt
        · subst q; obtain ⟨_, e1, _⟩ := Src.obj zs.s1; exact Heap.lt_size e1
        · subst q; obtain ⟨_, e1, _⟩ := Src.obj zs.s2; exact Heap.lt_size e1
      refine ⟨?_, (hf c hc).2⟩
      have h0 := (hf c hc).1
      rw [upd_ne (nS c hc)] at h0 ⊢
      rw [upd_ne (Nat.ne_of_lt clt)]
      exact h0
end
end DL
set_option Elab.async false
set_option linter.all false
set_option maxRecDepth 100000
set_option maxHeartbeats 4000000
namespace DL
open PySem PySem.Spec PyProof.Rows L2 DLZ
theorem zip_len0 : typeLookup (.type "zip") "__len__" = pure none := by
  rw [typeLookup_type, builtinLookup_eq_fast]
  kernel_rfl
theorem zip_hint0 : typeLookup (.type "zip") "__length_hint__" = pure none := by
  rw [typeLookup_type, builtinLookup_eq_fast]
  kernel_rfl
section
variable {prog : Program} {w : World} {A : Around} {s : Shared} {R : Result → Shared → Prop} {E : Value → Shared → Prop}
def OnlyAt (S : Addr) (h h' : Heap) : Prop := ∀ b o, b ≠ S → h.get? b = some o → h'.get? b = some o
theorem fill_zip {z TI TO S : Addr} {c0 : Nat} {res : Value} (hz : IsZip s.heap z TI TO .none) (ne : S ≠ z) (hS : s.heap.get? S = some { cls := .type "list", data := .seq #[] c0 })
    (go : ∀ h' c', OnlyAt S s.heap h' → h'.objs.size = s.heap.objs.size → h'.get? S = some { cls := .type "list", data := .seq #[] c' } → codeAny (model prog w) A (.builtin "list.extend.loop" ⟨[.ref S, .ref z, res], []⟩) R { s with heap := h' }) :
    wpAny (model prog w) A.in1 (Builtin.List.listExtendWith (.ref S) (.ref z) res)
      (fun fin s' => match fin with | .done f => R (.ok f) s' | .again c' => c'.quiet = true ∧ codeAny (model prog w) A c' R s') (fun e s' => R (.error e) s') s := by
  have ty : s.TypeIs (.ref z) "zip" := ⟨_, hz, rfl⟩
  unfold Builtin.List.listExtendWith
  refine wpAny_bind (wpAny_typeOf ty ?_)
  have q1 : Builtin.List.listSameRef (.ref S) (.ref z) = false := by simp [Builtin.List.listSameRef, ne]
  have q2 : (Value.type "zip" == Value.type "list") = false := by decide
  have q3 : (Value.type "zip" == Value.type "tuple") = false := by decide
  simp only [q1, q2, q3, Bool.or_false, Bool.false_eq_true, if_false]
  refine wpAny_bind (wpAny_pyIter_zip hz ?_)
  refine wpAny_bind (wpAny_holding ?_)
  unfold Builtin.List.listLengthHint
  refine wpAny_bind (wpAny_specialOf ty zip_len0 ?_)
  show wpAny _ A.in1 (specialOf (Value.ref z) (Str.ofString "__length_hint__") >>= _) _ _ s
  refine wpAny_bind (wpAny_specialOf ty zip_hint0 (wpAny_pure ?_))
  show wpAny _ A.in1 (rule "list.extend.makes-room" >>= fun _ => Builtin.List.listTouch (.ref S) >>= fun _ => again (.builtin "list.extend.loop" ⟨[.ref S, .ref z, res], []⟩)) _ _ s
  refine wpAny_bind (wpAny_rule (wpAny_bind ?_))
  show wpAny _ A.in1 (updateSeq S (·.push .none) >>= fun _ => updateSeq S (·.pop)) _ _ s
  refine wpAny_bind (wpAny_updateSeq hS rfl ?_)
  have g1 := Heap.get?_update_self (Obj.mapSeq (·.push Value.none)) hS rfl
  refine wpAny_updateSeq (hz := by seq_fits) g1 rfl ?_
  have g2 := Heap.get?_update_self (Obj.mapSeq (·.pop)) g1 rfl
  refine wpAny_pure ⟨plainId_quiet F.plain_extend_loop _, go _ _ (fun b o nb q => ?_) ?_ g2⟩
  · exact (Heap.get?_update_other _ _ nb.symm).trans ((Heap.get?_update_other _ _ nb.symm).trans q)
  · exact (Heap.SameBut.update ..).1.trans (Heap.SameBut.update ..).1
theorem init_zip {z TI TO S : Addr} (hz : IsZip s.heap z TI TO .none) (ne : S ≠ z) (hS : s.heap.get? S = some { cls := .type "list", data := .seq #[] })
    (go : ∀ h' c', OnlyAt S s.heap h' → h'.objs.size = s.heap.objs.size → h'.get? S = some { cls := .type "list", data := .seq #[] c' } → codeAny (model prog w) A (.builtin "list.extend.loop" ⟨[.ref S, .ref z, .none], []⟩) R { s with heap := h' }) :
    wpAny (model prog w) A.in1 (Builtin.«list.__init__» ⟨[.ref S, .ref z], []⟩)
      (fun fin s' => match fin with | .done f => R (.ok f) s' | .again c' => c'.quiet = true ∧ codeAny (model prog w) A c' R s') (fun e s' => R (.error e) s') s := by
  show wpAny _ A.in1 (do
    let old ← Builtin.List.listItems (.ref S)
    Builtin.List.listUpdate (.ref S) (fun _ => #[])
    letGo old.toList.reverse
    Builtin.List.listExtendWith (.ref S) (.ref z) .none) _ _ s
  refine wpAny_bind ?_
  unfold Builtin.List.listItems
  refine wpAny_bind (wpAny_seqItems hS rfl (wpAny_pure ?_))
  show wpAny _ A.in1 (updateSeq S (fun _ => #[]) >>= fun _ => letGo (#[] : Array Value).toList.reverse >>= fun _ => Builtin.List.listExtendWith (.ref S) (.ref z) .none) _ _ s
  refine wpAny_bind (wpAny_updateSeq hS rfl ?_)
  have g1 := Heap.get?_update_self (Obj.mapSeq (fun _ => (#[] : Array Value))) hS rfl
  have oth : OnlyAt S s.heap (s.heap.update S (Obj.mapSeq (fun _ => (#[] : Array Value)))) := fun b o nb q => (Heap.get?_update_other _ _ nb.symm).trans q
  refine wpAny_bind (wpAny_letGo ?_)
  refine fill_zip (s := { s with heap := s.heap.update S (Obj.mapSeq (fun _ => (#[] : Array Value))) }) (oth _ _ ne.symm hz) ne g1 fun h' c' k1 k2 k3 => ?_
  exact go h' c' (fun b o nb q => k1 b o nb (oth b o nb q)) (k2.trans (Heap.SameBut.update ..).1) k3
end
section
variable {X : Cx} {pins : List (Addr × Obj)} {σ : L2.St} {a b : Src} {t1 t2 : Tok} {z TI TO i1 i2 : Addr} {xs ys : List V} {H : Hp} {s : Shared} {Q : Value → Shared → Prop} {E : Value → Shared → Prop}
theorem call_list_zip (hh : X.A.handled = none) (D : Apart z TI TO i1 i2 (i1 :: a.ad) (i2 :: b.ad)) (n1 : i1 ∉ a.ad) (n2 : i2 ∉ b.ad) (hqa : a.At X.K H xs) (hqb : b.At X.K H ys) (hsz : xs.length ≤ 1000000) (I : Inv X pins σ H s)
    (hz : IsZip s.heap z TI TO .none) (hTI : IsPair s.heap TI (.ref i1) (.ref i2)) {u v : Value} (hTO : IsPair s.heap TO u v) (hi1 : a.Iter i1 t1 0 s.heap) (hi2 : b.Iter i2 t2 0 s.heap) (hf : ∀ c ∈ [z, TI, TO, i1, i2], FpOk X pins H c)
    (fin : ∀ s' S H1 Ts, LayT H (xs.zip ys) Ts H1 → H1 S = none → Inv X pins σ (upd H1 S (.lst (Ts.map V.ref))) s' → Q (.ref S) s') : wpAny (model X.prog X.w) X.A (call (.type "list") [.ref z]) Q E s := by
  have zlt : z < s.heap.objs.size := Heap.lt_size hz
  refine callType_codes (Q₁ := fun obj s₁ => obj = .ref s.heap.objs.size ∧ s₁ = { s with heap := s.heap.push { cls := .type "list", data := .seq #[] } }) F.called_list (F.typeCall_list_1 _) F.entry_list_init
    (code_list_new _ ⟨rfl, rfl⟩) fun obj s₁ h₁ => ?_
  obtain ⟨rfl, rfl⟩ := h₁
  have hS : (s.heap.push { cls := .type "list", data := .seq #[] }).get? s.heap.objs.size = some { cls := .type "list", data := .seq #[] } := Heap.get?_push_size _ rfl
  have up : ∀ c o, s.heap.get? c = some o → (s.heap.push { cls := .type "list", data := .seq #[] }).get? c = some o := fun c o q => Heap.get?_push_of_some _ q
  refine ⟨⟨_, hS, rfl⟩, F.args_list_init_2 _ _, init_zip (s := { s with heap := s.heap.push { cls := .type "list", data := .seq #[] } }) (up _ _ hz) (Nat.ne_of_gt zlt) hS fun h' c' k1 k2 k3 => ?_⟩
  have kp : ∀ c o, s.heap.get? c = some o → h'.get? c = some o := fun c o q => k1 c o (Nat.ne_of_lt (Heap.lt_size q)) (up c o q)
  have fresh : H s.heap.objs.size = none := I.hok.fresh (Nat.le_refl _)
  have I1 : Inv X pins σ (upd H s.heap.objs.size (.lst (([] : List Addr).map V.ref))) { s with heap := h' } := I.laid (t' := s.toks) kp (Nat.le_refl _) ⟨Nat.zero_le _, [], c', .nil, k3⟩
  have ltS : ∀ c ∈ [z, TI, TO, i1, i2], c < s.heap.objs.size := fun c hc => by
    have e' : c = z ∨ c = TI ∨ c = TO ∨ c = i1 ∨ c = i2 := by simpa using hc
    rcases e' with q | q | q | q | q
    · subst q; exact zlt
    · subst q; exact Heap.lt_size hTI
    · subst q; exact Heap.lt_size hTO
    · subst q; obtain ⟨_, e1, _⟩ := Src.obj hi1; exact Heap.lt_size e1
    · subst q; obtain ⟨_, e1, _⟩ := Src.obj hi2; exact Heap.lt_size e1
  refine loop_zip (A := X.A.in1) (t1 := t1) (t2 := t2) hh D n1 n2 hqa hqb hsz (fun s' H1 Ts l1 l2 l3 => ⟨rfl, fin s' _ H1 Ts l1 l2 l3⟩) (min xs.length ys.length) 0 _ H [] rfl (Nat.zero_le _) (by rw [List.take_zero]; exact .nil) fresh I1 ?_ fun c hc => ⟨?_, (hf c hc).2⟩
  · refine ⟨kp _ _ hTI, Src.keep (fun o q => kp _ _ q) hi1, Src.keep (fun o q => kp _ _ q) hi2, ?_, .inl ⟨kp _ _ hz, u, v, kp _ _ hTO⟩⟩
    exact Heap.lt_size (kp _ _ hTO)
  · rw [upd_ne (Nat.ne_of_lt (ltS c hc))]
    exact (hf c hc).1
end
end DL
set_option Elab.async false
set_option linter.all false
set_option maxRecDepth 100000
set_option maxHeartbeats 4000000
namespace DL
open PySem PySem.Spec PyProof.Rows L2 DLZ
def tLz (K : PySem.W.Frag) (ta : TA) : TE := fun σ H Q => ta σ H fun vs H1 => ∃ (a b : Src) (xs ys : List V), vs = [a.v, b.v] ∧ a.At K H1 xs ∧ b.At K H1 ys ∧ xs.length ≤ 1000000 ∧ ∀ S H2 Ts, LayT H1 (xs.zip ys) Ts H2 → H2 S = none → Q (.ref S) (upd H2 S (.lst (Ts.map V.ref)))
theorem pe_listzip {X : Cx} {e e2 : Expr} {ta : TA} {p p0 pos pos0 : Pos} (hc : X.calm = true) (hg0 : Gl X "list") (hm0 : X.mg "list" = none) (hg : Gl X "zip") (hm : X.mg "zip" = none) (ha : PA X [e, e2] ta)
    (hs0 : starEach [.Call (.Name "zip" p) [e, e2] [] pos] X.env = (false, eval (.Call (.Name "zip" p) [e, e2] [] pos) X.env) :: starEach [] X.env := by exact star_ok _ _ _ rfl) (hpl0 : (backTo pos0 (starEach [] X.env)).any (·.1) = false := by rfl)
    (hs : starEach [e, e2] X.env = (false, eval e X.env) :: starEach [e2] X.env := by exact star_ok _ _ _ rfl) (hpl : (backTo pos (starEach [e2] X.env)).any (·.1) = false := by rfl) :
    PE X (.Call (.Name "list" p0) [.Call (.Name "zip" p) [e, e2] [] pos] [] pos0) (tLz X.K ta) := by
  refine ⟨fun pins s σ H Q I h => ?_⟩
  refine Call_ (ld_blt I hg0 hm0 PyProof.Rows.boot_list (PyProof.Rows.callWith_type1 ?_ hs0 hpl0))
  rw [hs0]
  show wpAny _ _ (spliced ((false, eval (.Call (.Name "zip" p) [e, e2] [] pos) X.env) :: backTo pos0 (starEach [] X.env))) _ _ s
  refine Calls.spliced_cons ?_
  refine Call_ (ld_blt I hg hm PyProof.Rows.boot_zip (PyProof.Rows.callWith_type1 (thn (ha.run pos pins s σ H _ I h) fun us s1 ⟨vs, H1, I1, r1, q1⟩ => ?_) hs hpl))
  obtain ⟨a, b, xs, ys, ex, hqx, hqy, hlen, q⟩ := q1
  subst ex
  cases r1 with
  | cons ra rr =>
    cases rr with
    | cons rb rr =>
      cases rr
      obtain ⟨t1, C1, w1, c1, _⟩ := Src.iters I1 hqx ra
      obtain ⟨t2, C2, w2, c2, m2⟩ := Src.iters I1 hqy rb
      have la := Src.alive I1 hqx
      have lb := Src.alive I1 hqy
      refine call_zipG w1 w2 (fun h z => m2 h _ z) c1 c2 Src.ob_live Src.ob_live fun h' hz hTI hTO g1 g2 hsz hk => ?_
      refine args_nil ?_
      have I2 : Inv X pins σ H1 { s1 with heap := h' } := I1.kept (t' := s1.toks) hk
      refine call_list_zip (s := { s1 with heap := h' }) (t1 := t1) (t2 := t2) (show X.A.in1.handled = none from I1.ok.hd hc) (apart_new la lb) (fun z => Nat.lt_irrefl _ (la _ z)) (fun z => Nat.lt_irrefl _ (Nat.lt_of_le_of_lt (Nat.le_succ _) (lb _ z))) hqx hqy hlen I2 hz hTI hTO (Src.first g1) (Src.first g2) (fun c hcm => ?_) fun s' S H2 Ts l1 l2 l3 => ⟨.ref S, _, l3, rfl, q S H2 Ts l1 l2⟩
      have hle : s1.heap.objs.size ≤ c := by
        have e' : c = s1.heap.objs.size + 4 ∨ c = s1.heap.objs.size + 2 ∨ c = s1.heap.objs.size + 3 ∨ c = s1.heap.objs.size ∨ c = s1.heap.objs.size + 1 := by simpa using hcm
        rcases e' with z | z | z | z | z <;> rw [z]
        · exact Nat.le_add_right _ _
        · exact Nat.le_add_right _ _
        · exact Nat.le_add_right _ _
        · exact Nat.le_refl _
        · exact Nat.le_add_right _ _
      exact I1.fpOk hle (I1.hok.fresh hle)
def eLz (l : M (List D)) : M D := fun env => (l env).bind fun ds e => match ds with
  | [a, b] => (match seqD a, seqD b with
    | some xs, some ys => if xs.length ≤ 1000000 then .ok (.lst (zipD xs ys)) e else .bad
    | _, _ => .bad)
  | _ => .bad
theorem lay_rp {S : Gd} {σ : L2.St} {H F H1 : Hp} {env : DL.Env} {ad : Nat → List Addr} {ps : List (V × V)} {Ts : List Addr} (lay : LayT H ps Ts H1) (sr : SR S σ H F env ad) (ds : List (D × D)) (hl : ds.length = ps.length) (hr : ∀ (i : Nat) (p : V × V) (d : D × D), ps[i]? = some p → ds[i]? = some d → Rp S.T F p.1 d.1 ∧ Rp S.T F p.2 d.2) :
    ∃ F', Le F F' ∧ SR S σ H1 F' env ad ∧ RpAll S.T F' (Ts.map V.ref) (ds.map fun d => .tup [d.1, d.2]) := by
  induction lay generalizing ds with
  | nil =>
    cases ds with
    | nil => exact ⟨F, Le.refl F, sr, .nil⟩
    | cons d r => cases hl
  | @snoc ps Ts H1 T x y lay hn ih =>
    have hne : ds ≠ [] := fun z => by rw [z] at hl; simp at hl
    obtain ⟨r, d, rfl⟩ : ∃ r d, ds = r ++ [d] := ⟨ds.dropLast, ds.getLast hne, (List.dropLast_concat_getLast hne).symm⟩
    have hl2 : r.length = ps.length := by simpa using hl
    obtain ⟨F1, le1, sr1, ra⟩ := ih r hl2 fun i p d' e1 e2 => hr i p d' (by rw [List.getElem?_append_left (List.getElem?_eq_some_iff.mp e1).1]; exact e1) (by rw [List.getElem?_append_left (List.getElem?_eq_some_iff.mp e2).1]; exact e2)
    obtain ⟨h1, h2⟩ := hr ps.length (x, y) d (by simp) (by rw [← hl2]; simp)
    obtain ⟨F2, le2, sr2, rt⟩ := sr1.newTup (vs := [x, y]) (ds := [d.1, d.2]) (.cons (h1.mono le1) (.one (h2.mono le1))) hn
    refine ⟨F2, le1.trans le2, sr2, ?_⟩
    rw [List.map_append, List.map_append]
    exact (ra.mono le2).append (.one rt)
theorem zipD_map : ∀ xs ys : List D, zipD xs ys = (xs.zip ys).map fun d => .tup [d.1, d.2]
  | [], _ => by simp [zipD]
  | _ :: _, [] => by simp [zipD]
  | x :: r, y :: s => by rw [zipD, zipD_map r s]; rfl
section
variable {X : Cx} {S : Gd} {W : WX} {e e2 : Expr} {pos p p0 pos0 : Pos} {l : M (List D)}
theorem de_listzip (hc : X.calm = true) (hg0 : Gl X "list") (hm0 : X.mg "list" = none) (hg : Gl X "zip") (hm : X.mg "zip" = none) (ha : PA X [e, e2] (tL S W l)) (hK : X.K = S.T.K := by rfl) (hs : starEach [e, e2] X.env = (false, eval e X.env) :: starEach [e2] X.env := by exact star_ok _ _ _ rfl) (hpl : (backTo pos (starEach [e2] X.env)).any (·.1) = false := by rfl) : PE X (.Call (.Name "list" p0) [.Call (.Name "zip" p) [e, e2] [] pos] [] pos0) (tD S W (eLz l)) :=
  PE.imp (pe_listzip hc hg0 hm0 hg hm ha (star_ok _ _ _ rfl) rfl hs hpl) fun σ H Q ⟨F, env, ad, sr, p⟩ => ⟨F, env, ad, sr, p.bind.imp fun ds e1 H1 F1 ad1 le1 sr1 q vs rs => by
    rw [hK]
    have q2 := q.2
    split at q2
    · rename_i a b
      cases rs with
      | cons h t =>
        cases t with
        | cons h2 t2 =>
          cases t2
          split at q2
          · rename_i xs ys ea eb
            split at q2
            · rename_i hx
              obtain ⟨A, us, z1, z2, z3⟩ := seq_src h ea
              obtain ⟨B, us2, y1, y2, y3⟩ := seq_src h2 eb
              refine ⟨A, B, us, us2, by rw [z1, y1], z2 H1 sr1.sub, y2 H1 sr1.sub, by rw [z3.length]; exact hx, fun St H2 Ts lay hS => ?_⟩
              obtain ⟨F2, le2, sr2, ra⟩ := lay_rp lay sr1 (xs.zip ys) (by rw [List.length_zip, List.length_zip, z3.length, y3.length]) fun i p d e1 e2 => by
                obtain ⟨p1, p2⟩ := p
                obtain ⟨d1, d2⟩ := d
                obtain ⟨a1, a2⟩ := List.getElem?_zip_eq_some.mp e1
                obtain ⟨b1, b2⟩ := List.getElem?_zip_eq_some.mp e2
                obtain ⟨v, c1, c2⟩ := z3.get b1
                obtain ⟨w, c3, c4⟩ := y3.get b2
                have c1 : us[i]? = some v := c1
                have a1 : us[i]? = some p1 := a1
                have c3 : us2[i]? = some w := c3
                have a2 : us2[i]? = some p2 := a2
                rw [a1] at c1
                rw [a2] at c3
                cases c1
                cases c3
                exact ⟨c2, c4⟩
              obtain ⟨F3, le3, sr3, rl⟩ := sr2.newLst ra hS
              refine q2 _ F3 ad1 (le2.trans le3) sr3 _ ?_
              rw [zipD_map]
              exact rl
            · exact q2.elim
          · exact q2.elim
    · exact q2.elim⟩
end
end DL
set_option Elab.async false
set_option linter.all false
set_option maxRecDepth 100000
set_option maxHeartbeats 4000000
namespace DL
open PySem PySem.Spec PyProof.Rows L2
def downD (hi : Int) : Nat → List D
  | 0 => []
  | n + 1 => .int hi :: downD (hi - 1) n
theorem downD_length : ∀ (n : Nat) (hi : Int), (downD hi n).length = n
  | 0, _ => rfl
  | n + 1, hi => by
    show (downD (hi - 1) n).length + 1 = n + 1
    rw [downD_length n]
theorem downD_get : ∀ (n : Nat) (hi : Int) (i : Nat) (d : D), (downD hi n)[i]? = some d → i < n ∧ d = .int (hi - i)
  | 0, _, _, _, e => by simp [downD] at e
  | n + 1, hi, 0, d, e => by
    have e2 : some (D.int hi) = some d := e
    cases e2
    exact ⟨Nat.succ_pos _, by simp⟩
  | n + 1, hi, i + 1, d, e => by
    have e2 : (downD (hi - 1) n)[i]? = some d := e
    obtain ⟨h1, h2⟩ := downD_get n (hi - 1) i d e2
    refine ⟨by omega, ?_⟩
    rw [h2]
    congr 1
    omega
theorem it_down {T : Tb} {F : Hp} (hi : Int) (n : Nat) : ItD T F (Itc hi (-1) n) (downD hi n) := fun H le i => by
  refine ⟨fun d e => ?_, fun hl => ?_⟩
  · obtain ⟨h1, h2⟩ := downD_get n hi i d e
    refine ⟨h1, fun x H' hy => .inl ⟨hy.1, ?_⟩⟩
    have e3 : x = .int (hi + (i : Nat) * (-1)) := hy.2
    rw [h2, e3]
    have e4 : hi + ((i : Nat) : Int) * (-1) = hi - i := by omega
    rw [e4]
    exact .int _
  · rw [downD_length] at hl
    exact Nat.le_of_eq hl.symm
def iRg3 (l : M (List D)) : M (List D) := fun env => (l env).bind fun ds e => match ds with
  | [.int i, .int j, .int c] => if (DL.inR i && DL.inR j && decide (c = -1)) = true then .ok (downD i (i - j).toNat) e else .bad
  | _ => .bad
theorem di_range3 {X : Cx} {S : Gd} {W : WX} {tg a b c : Expr} {p pos : Pos} {l : M (List D)} (hg : Gl X "range") (hm : X.mg "range" = none) (ha : PA X [a, b, c] (tL S W l))
    (hs : starEach [a, b, c] X.env = (false, eval a X.env) :: starEach [b, c] X.env := by exact star_ok _ _ _ rfl) (hpl : (backTo pos (starEach [b, c] X.env)).any (·.1) = false := by rfl) : PI X tg (.Call (.Name "range" p) [a, b, c] [] pos) (tI S W (iRg3 l)) :=
  PI.imp (pi_range3 hg hm ha hs hpl) fun σ H R ⟨F, env, ad, sr, p⟩ => ⟨F, env, ad, sr, p.bind.imp fun ds e1 H1 F1 ad1 le1 sr1 q vs rs => by
    have q2 := q.2
    split at q2
    · split at q2
      · rename_i i j c hj
        rw [Bool.and_eq_true, Bool.and_eq_true] at hj
        have hc : c = -1 := of_decide_eq_true hj.2
        subst hc
        cases rs with
        | cons h t =>
          cases t with
          | cons h2 t2 =>
            cases t2 with
            | cons h3 t3 =>
              cases t3; cases h; cases h2; cases h3
              exact ⟨i, j, -1, _, rfl, RgC.neg (inR_ok hj.1.1).1 (inR_ok hj.1.1).2 (inR_ok hj.1.2).1 (inR_ok hj.1.2).2, q2 H1 F1 ad1 (Le.refl F1) sr1 _ (it_down i _)⟩
      · exact q2.elim
    · exact q2.elim⟩
end DL
set_option Elab.async false
set_option linter.all false
set_option maxRecDepth 100000
set_option maxHeartbeats 4000000
namespace DL
open PySem PySem.Spec PyProof.Rows L2
def strsD : List D → Option (List Str)
  | [] => some []
  | .str x :: r => (strsD r).map (x :: ·)
  | _ => none
def signs (z : Str) : List Str := z.cps.toList.map fun c => ⟨#[c]⟩
def catS (xs : List Str) (z : Str) : List Str := xs.flatMap fun x => (signs z).map fun c => x ++ c
def sCat (i ja jb : Nat) (z : Str) : DL.Env → Fl := fun env => (DL.iLst (eVar i) env).fl fun ds e => match strsD ds with
  | some xs => if (catS xs z).length ≤ 1000000 ∧ (∀ x ∈ xs, x.length ≤ 1000) ∧ z.length ≤ 1000 ∧ ja < e.length ∧ jb < e.length then .nx (e.set i (.own (.ol ((catS xs z).map .str)))) else .bad
  | none => .bad
theorem strs_rp {T : Tb} {F : Hp} {ds : List D} : ∀ {xs : List Str}, strsD ds = some xs → ds = xs.map D.str := by
  induction ds with
  | nil => intro xs h; cases h; rfl
  | cons d r ih =>
    intro xs h
    cases d with
    | str x =>
      obtain ⟨ys, h1, h2⟩ := Option.map_eq_some_iff.mp (show (strsD r).map (x :: ·) = some xs from h)
      subst h2
      rw [ih h1]
      rfl
    | _ => cases h
theorem strs_all {T : Tb} {F : Hp} : ∀ xs : List Str, RpAll T F (xs.map V.str) (xs.map D.str)
  | [] => .nil
  | x :: r => .cons (.str x) (strs_all r)
theorem t_cat {S : Gd} {W : WX} {i ja jb : Nat} {z : Str} {d : Ends} {σ : L2.St} {H : Hp} (hne : ja ≠ jb) (h : tS S W (sCat i ja jb z) d σ H) :
    tAsg (tLc2 (tI S W (DL.iLst (eVar i))) (gName ja) tYes (L2.iStr (tC (.str z))) (gName jb) tYes (tOp (rAddA S.T.K) (tVar ja) (tVar jb)) [ja, jb] [jb]) (gName i) d σ H := by
  obtain ⟨F, env, ad, sr, p⟩ := h
  refine ⟨F, env, ad, sr, (Post.fl p).imp fun ds e1 H1 F1 ad1 le1 sr1 q J hJ b hb1 => ?_⟩
  cases hs : strsD ds with
  | none => rw [hs] at q; exact q.elim
  | some xs =>
    rw [hs] at q
    simp only at q
    by_cases hc : (catS xs z).length ≤ 1000000 ∧ (∀ x ∈ xs, x.length ≤ 1000) ∧ z.length ≤ 1000 ∧ ja < e1.length ∧ jb < e1.length
    case neg => rw [if_neg hc] at q; exact q.elim
    rw [if_pos hc] at q
    obtain ⟨c1, c2, c3, ha, hb⟩ := hc
    have eds : ds = xs.map D.str := strs_rp (T := S.T) (F := F) hs
    have hl : ds.length = xs.length := by rw [eds, List.length_map]
    have szb : 2000000 ≤ sizeLine := sizeLine_big
    have lep : ∀ (l : List V), Le F1 (upd H1 b (.lst l)) := fun l => sr1.sub.trans (Le.new hb1)
    refine ⟨fun k m H => m = xs.length - k ∧ k ≤ xs.length ∧ H = upd H1 b (.lst ((catS (xs.take k) z).map V.str)), ⟨xs.length, by simp, Nat.zero_le _, rfl⟩, ?_⟩
    rintro k m H ⟨rfl, hk, rfl⟩
    by_cases hlt : k < xs.length
    · have hd : ds[k]? = some (.str xs[k]) := by rw [eds, List.getElem?_map, List.getElem?_eq_getElem hlt]; rfl
      obtain ⟨g, y⟩ := (hJ _ (lep _) k).1 _ hd
      have hmono : (catS (xs.take (k + 1)) z).length ≤ (catS xs z).length := by
        have e5 : catS xs z = catS (xs.take (k + 1)) z ++ catS (xs.drop (k + 1)) z := by
          unfold catS
          rw [← List.flatMap_append, List.take_append_drop]
        rw [e5, List.length_append]
        omega
      have hcat : catS (xs.take (k + 1)) z = catS (xs.take k) z ++ (signs z).map fun c => xs[k] ++ c := by
        unfold catS
        rw [List.take_succ, List.getElem?_eq_getElem hlt, List.flatMap_append]
        simp
      refine .inr ⟨g, fun H' => H' = upd H1 b (.lst ((catS (xs.take (k + 1)) z).map V.str)), fun H' e => ⟨xs.length - (k + 1), by omega, rfl, by omega, e⟩, fun x H' hy => ?_⟩
      have hx : H' = upd H1 b (.lst ((catS (xs.take k) z).map V.str)) ∧ x = .str xs[k] := by
        rcases y x H' hy with ⟨z1, z2⟩ | ⟨p, us, es, _, _, _, z4, _⟩
        · cases z2
          exact ⟨z1, rfl⟩
        · cases z4
      obtain ⟨rfl, rfl⟩ := hx
      have lw : (wipe σ [ja, jb]).length = e1.length := by rw [wipe_length]; exact sr1.len
      have wv : wipe (wipe σ [ja, jb]) [ja, jb] = wipe σ [ja, jb] := wipe_eq (js := [ja, jb]) ⟨wipe_length σ _, fun j hj => wipe_out hj⟩ fun _ z => z
      show wipe ((wipe σ [ja, jb]).set ja (some (.str xs[k]))) [ja, jb] = wipe σ [ja, jb] ∧ _
      refine ⟨(wipe_eq (js := [ja]) (σ := wipe σ [ja, jb]) But.set (by simp)).trans wv, ?_⟩
      unfold tYes
      simp only [if_true]
      refine ⟨z, rfl, fun j n H => n = z.cps.size - j ∧ j ≤ z.cps.size ∧ H = upd H1 b (.lst ((catS (xs.take k) z ++ ((signs z).take j).map fun c => xs[k] ++ c).map V.str)), ⟨z.cps.size, by simp, Nat.zero_le _, by simp⟩, ?_⟩
      rintro j n H ⟨rfl, hj, rfl⟩
      by_cases hjlt : j < z.cps.size
      · refine .inr ⟨hjlt, fun H' => H' = upd H1 b (.lst ((catS (xs.take k) z ++ ((signs z).take (j + 1)).map fun c => xs[k] ++ c).map V.str)), fun H' e => ⟨z.cps.size - (j + 1), by omega, rfl, by omega, e⟩, fun x H' hy => ?_⟩
        obtain ⟨rfl, c, hcj, rfl⟩ := hy
        have hsj : (signs z)[j]? = some ⟨#[c]⟩ := by
          unfold signs
          rw [List.getElem?_map, Array.getElem?_toList, hcj]
          rfl
        have ln : (wipe ((wipe σ [ja, jb]).set ja (some (.str xs[k]))) [jb]).length = e1.length := by rw [wipe_length, List.length_set]; exact lw
        show wipe ((wipe ((wipe σ [ja, jb]).set ja (some (.str xs[k]))) [jb]).set jb (some (.str ⟨#[c]⟩))) [jb] = wipe ((wipe σ [ja, jb]).set ja (some (.str xs[k]))) [jb] ∧ _
        have wv2 : wipe (wipe ((wipe σ [ja, jb]).set ja (some (.str xs[k]))) [jb]) [jb] = wipe ((wipe σ [ja, jb]).set ja (some (.str xs[k]))) [jb] := wipe_eq (js := [jb]) ⟨wipe_length _ _, fun j hj => wipe_out hj⟩ fun _ z => z
        refine ⟨(wipe_eq (js := [jb]) (σ := wipe ((wipe σ [ja, jb]).set ja (some (.str xs[k]))) [jb]) But.set (by simp)).trans wv2, ?_⟩
        refine ⟨.str xs[k], ?_, .str ⟨#[c]⟩, get_set_lt (by rw [ln]; exact hb), .inr (.inl ⟨_, _, rfl, rfl, ?_, _, upd_same, ?_, ?_⟩)⟩
        · rw [get_set_ne hne, wipe_out (by simp [hne])]
          exact get_set_lt (by rw [lw]; exact ha)
        · have := c2 xs[k] (List.getElem_mem _)
          have e6 : (⟨#[c]⟩ : Str).length = 1 := rfl
          rw [e6]
          omega
        · have e7 := hmono
          rw [hcat, List.length_append, List.length_map] at e7
          have e8 : (signs z).length = z.cps.size := by simp [signs]
          rw [List.length_map, List.length_append, List.length_map, List.length_take, e8]
          omega
        · rw [upd_twice]
          congr 2
          rw [List.take_succ, hsj]
          simp
      · have e0 : j = z.cps.size := by omega
        refine .inl ⟨by show z.cps.size ≤ j; omega, ?_⟩
        rw [hcat, e0]
        have e8 : (signs z).length = z.cps.size := by simp [signs]
        rw [show (signs z).take z.cps.size = signs z from List.take_of_length_le (by omega)]
    · have e0 : k = xs.length := by omega
      subst e0
      rw [List.take_length]
      refine .inl ⟨(hJ _ (lep _) _).2 hl.symm, ?_⟩
      show d.nx (σ.set i (some (.ref b))) _
      by_cases hil : i < e1.length
      · refine q _ _ F1 _ (Le.refl F1) ((sr1.more hb1).put i (some (.ref b)) (.own (.ol ((catS xs z).map .str))) [b] rfl (fun _ => ⟨b, rfl, rfl, _, upd_same, strs_all _⟩) (fun z => absurd hil (by omega)) (fun j a _ ha => ?_) fun a ha => ?_)
        · have : a = b := by simpa using ha
          subst this
          exact fun hj => sr1.somes hj hb1
        · have : a = b := by simpa using ha
          subst this
          exact ⟨sr1.fnone hb1, .inl (sr1.dom _ hb1)⟩
      · have e9 : e1.set i (.own (.ol ((catS xs z).map .str))) = e1 := List.set_eq_of_length_le (by omega)
        have e10 : σ.set i (some (.ref b)) = σ := List.set_eq_of_length_le (by have := sr1.len; omega)
        rw [e9] at q
        rw [e10]
        exact q _ _ F1 _ (Le.refl F1) (sr1.more hb1)
theorem pe_gstr {X : Cx} {x z : Str} {pos : Pos} (hg : Gl X x) (hm : ∃ t, X.mg x = some (.str z t)) (hd : (x == ("__debug__" : Str)) = false := by decide) : PE X (.Name x pos) (tC (.str z)) := by
  obtain ⟨t, hm⟩ := hm
  exact pe_glob (v := .str z) hg hm ⟨t, rfl⟩ hd
section
variable {X : Cx} {T : Tb} {H0 F0 : Hp} {OA : List Addr} {V0 : L2.St} {W : WX} {scope : Scope} {own : List (Str × Nat)} {pos spos py p1 p2 p3 p4 p5 p6 p7 : Pos} {i ja jb : Nat} {y xa xb G z : Str}
theorem ds_cat (hc : X.calm = true) (hN : X.N.Nodup) (hy : X.N[i]? = some y) (hyl : X.env.scope.names.lookup y = some .local) (hsw : swapsWith (.ListComp (.BinOp (.Name xa p1) .Add (.Name xb p2) p3) [⟨.Name xa p4, .Name y p5, [], 0⟩, ⟨.Name xb p6, .Name G p7, [], 0⟩] scope pos) (some (.Name y py)) spos.line X.env = pure true)
    (hi : PE X (.Name y p5) (tD ⟨T, H0, F0, OA, V0⟩ W (eVar i))) (ok : BlkOk X.N X.env.scope scope [(xa, ja), (xb, jb)]) (hne : ja ≠ jb)
    (hga : ∀ (s : Shared) (H : Hp) (C : Addr) (cl : List (Str × Addr)) (fp : List Addr), PG (X.blk s H scope (compEnvC scope cl C X.env) fp) (.Name xa p4) (gName ja))
    (hgb : ∀ (s : Shared) (H : Hp) (C : Addr) (cl : List (Str × Addr)) (fp : List Addr), PG (X.blk s H scope (compEnvC scope cl C X.env) fp) (.Name xb p6) (gName jb))
    (hz : ∀ (s : Shared) (H : Hp) (C : Addr) (cl : List (Str × Addr)) (fp : List Addr), PE (X.blk s H scope (compEnvC scope cl C X.env) fp) (.Name G p7) (tC (.str z)))
    (hva : ∀ (s : Shared) (H : Hp) (C : Addr) (cl : List (Str × Addr)) (fp : List Addr), PE (X.blk s H scope (compEnvC scope cl C X.env) fp) (.Name xa p1) (tVar ja))
    (hvb : ∀ (s : Shared) (H : Hp) (C : Addr) (cl : List (Str × Addr)) (fp : List Addr), PE (X.blk s H scope (compEnvC scope cl C X.env) fp) (.Name xb p2) (tVar jb)) (hK : X.K = T.K := by rfl)
    (hs : ∀ x, foldedSetIterable (.Name y p5) X.env x = pure x := by intro _; rfl) (hs1 : ∀ env x, foldedSetIterable (.Name G p7) env x = pure x := by intro _ _; rfl) :
    PS X (.Assign [.Name y py] (.ListComp (.BinOp (.Name xa p1) .Add (.Name xb p2) p3) [⟨.Name xa p4, .Name y p5, [], 0⟩, ⟨.Name xb p6, .Name G p7, [], 0⟩] scope pos) spos) (tS ⟨T, H0, F0, OA, V0⟩ W (sCat i ja jb z)) :=
  PS.imp (ps_setLc2 (vs1 := [jb]) hc hN hy hyl hsw (di_list hi hK) ok (by simp) hga (fun _ _ _ _ _ => pts_nil) (fun s H C cl fp => pi_str (hz s H C cl fp)) hgb (fun _ _ _ _ _ => pts_nil) (fun s H C cl fp => pe_op op_addA (hva s H C cl fp) (hvb s H C cl fp)) hs hs1) fun d σ H h => by
    have q := t_cat (S := ⟨T, H0, F0, OA, V0⟩) hne h
    rw [← hK] at q
    exact q
end
end DL
set_option Elab.async false
set_option linter.all false
set_option maxRecDepth 100000
set_option maxHeartbeats 4000000
namespace DL
open PySem PySem.Spec PyProof.Rows L2
end DL
set_option Elab.async false
set_option linter.all false
set_option maxRecDepth 100000
set_option maxHeartbeats 4000000
namespace DL
open PySem PySem.Spec PyProof.Rows L2
def joinD : D → D → Option D
  | .str a, .lst ds => (strsD ds).bind fun xs => if (xs.map (·.length)).sum + xs.length * a.length ≤ 16777216 then some (.str (Txt.join a xs)) else none
  | _, _ => none
theorem strs_vals {T : Tb} {F : Hp} : ∀ {vs : List V} {ds : List D} {xs : List Str}, RpAll T F vs ds → strsD ds = some xs → vs = xs.map V.str
  | _, _, _, .nil, e => by cases e; rfl
  | _, _, xs, .cons (d := d) h t, e => by
    cases h with
    | str x =>
      obtain ⟨ys, h1, h2⟩ := Option.map_eq_some_iff.mp (show (strsD _).map (x :: ·) = some xs from e)
      subst h2
      rw [strs_vals t h1]
      rfl
    | _ => cases e
def isStr : D → Bool
  | .str _ => true
  | _ => false
def eJoin (mo m : M D) : M D := fun env => (mo env).bind fun x e1 => if isStr x = true then (m e1).bind fun y e2 => lift (joinD x y) e2 else .bad
section
variable {X : Cx} {S : Gd} {W : WX} {o e : Expr} {mo m : M D} {apos pos cpos : Pos}
theorem de_join (ho : PE X o (tD S W mo)) (he : PE X e (tD S W m)) (hK : X.K = S.T.K := by rfl) (hs : starEach [e] X.env = [(false, eval e X.env)] := by exact star_ok _ _ _ rfl) (hbase : attributeBase o "join" X.env (eval o X.env) = eval o X.env := by rfl) (hline : (apos.endLine == pos.line) = true := by rfl) :
    PE X (.Call (.Attribute o "join" apos) [e] [] pos) (tD S W (eJoin mo m)) :=
  PE.imp (pe_join ho he hs hbase hline) fun σ H Q ⟨F, env, ad, sr, p⟩ => ⟨F, env, ad, sr, p.bind.imp fun x e1 H1 F1 ad1 le1 sr1 q v r => by
    have q2 := q.2
    cases r with
    | str a =>
      refine ⟨⟨a, rfl⟩, F1, e1, ad1, sr1, (Post.bind (show Post S W σ F1 ((m e1).bind fun y e2 => lift (joinD (.str a) y) e2) _ from q2)).imp fun y e2 H2 F2 ad2 le2 sr2 q3 u ru => ?_⟩
      obtain ⟨d, e4, q4⟩ := Post.lift q3.2
      cases ru with
      | lst h1 r1 =>
        obtain ⟨xs, h2, h3⟩ := Option.bind_eq_some_iff.mp (show (strsD _).bind _ = some d from e4)
        split at h3
        · rename_i hb
          cases h3
          refine ⟨a, _, xs, rfl, rfl, .inl ?_, hb, q4 H2 F2 ad2 (Le.refl F2) sr2 _ (.str _)⟩
          rw [hK, ← strs_vals r1 h2]
          exact .of (sr2.sub _ _ h1)
        · cases h3
      | _ => cases e4
    | _ => exact q2.elim⟩
def cntD : D → D → Option D
  | .lst ds, .int k => (intsD ds).map fun ns => .int (ns.count k : Nat)
  | _, _ => none
def eCnt (mo m : M D) : M D := fun env => (mo env).bind fun x e1 => match x with
  | .lst ds => (m e1).bind fun y e2 => lift (cntD (.lst ds) y) e2
  | _ => .bad
theorem de_count (ho : PE X o (tD S W mo)) (he : PE X e (tD S W m)) (hK : X.K = S.T.K := by rfl) (hbase : attributeBase o "count" X.env (eval o X.env) = eval o X.env := by rfl)
    (hs : starEach [e] X.env = (false, eval e X.env) :: starEach [] X.env := by exact star_ok _ _ _ rfl)
    (hfew : ((backTo cpos (starEach [e] X.env)).all (fun x => !x.1) && (backToKw cpos (keywordEach [] X.env)).all (fun x => x.1.isSome)
      && decide ([e].length + ([] : List Keyword).length + (if ([] : List Keyword).isEmpty then 0 else 1) < 30)) = true := by rfl)
    (hline : (apos.endLine == cpos.line) = true := by rfl) (hplain : (backTo cpos (starEach [] X.env)).any (·.1) = false := by rfl) :
    PE X (.Call (.Attribute o "count" apos) [e] [] cpos) (tD S W (eCnt mo m)) :=
  PE.imp (pe_bm PySem.F.plainAttrs_list PySem.F.slot_list_count PySem.F.type_list_count mt_lcount ho (pa_cons he pa_nil hs) hbase hfew hline hs hplain) fun σ H Q ⟨F, env, ad, sr, p⟩ => ⟨F, env, ad, sr, p.bind.imp fun x e1 H1 F1 ad1 le1 sr1 q v r => by
    have q2 := q.2
    cases r with
    | lst h1 r1 =>
      rename_i a0 vs0 ds0
      rw [hK]
      refine ⟨.inl ⟨rfl, _, .of (sr1.sub _ _ h1)⟩, F1, e1, ad1, sr1, (Post.bind (show Post S W σ F1 ((m e1).bind fun y e2 => lift (cntD (.lst ds0) y) e2) _ from q2)).imp fun y e2 H2 F2 ad2 le2 sr2 q3 u ru => ?_⟩
      obtain ⟨d, e4, q4⟩ := Post.lift q3.2
      cases ru with
      | int k =>
        obtain ⟨ns, h2, h3⟩ := Option.map_eq_some_iff.mp (show (intsD ds0).map _ = some d from e4)
        subst h3
        refine ⟨a0, ns, k, rfl, rfl, ?_, q4 H2 F2 ad2 (Le.refl F2) sr2 _ (.int _)⟩
        rw [← ints_rp r1 h2]
        exact .of (sr2.sub _ _ (le2 _ _ h1))
      | _ => cases e4
    | _ => exact q2.elim⟩
end
end DL
set_option Elab.async false
set_option linter.all false
set_option maxRecDepth 100000
set_option maxHeartbeats 4000000
namespace DL
open PySem PySem.Spec PyProof.Rows L2
def PEK (X : Cx) (e : Expr) (t : TE) : Prop :=
  ∀ (pins : List (Addr × Obj)) (s : Shared) (σ : L2.St) (H : Hp) (Q : VK), Inv X pins σ H s → t σ H Q → wpAny (model X.prog X.w) X.A (eval e X.env) (fun v s' => 1 ≤ s'.toks ∧ EP X pins σ Q v s') X.xe s
def PAK (X : Cx) (es : List Expr) (t : TA) : Prop :=
  ∀ (pos : Pos) (pins : List (Addr × Obj)) (s : Shared) (σ : L2.St) (H : Hp) (Q : List V → Hp → Prop), Inv X pins σ H s → t σ H Q → wpAny (model X.prog X.w) X.A (spliced (backTo pos (starEach es X.env))) (fun us s' => 1 ≤ s'.toks ∧ AP X pins σ Q us s') X.xe s
section
variable {X : Cx} {e : Expr} {es : List Expr} {te : TE} {ta : TA}
theorem PEK.imp {t t' : TE} (h : PEK X e t) (i : ∀ σ H Q, t' σ H Q → t σ H Q) : PEK X e t' := fun pins s σ H Q I q => h pins s σ H Q I (i σ H Q q)
theorem PAK.imp {t t' : TA} (h : PAK X es t) (i : ∀ σ H Q, t' σ H Q → t σ H Q) : PAK X es t' := fun pos pins s σ H Q I q => h pos pins s σ H Q I (i σ H Q q)
end
end DL
set_option Elab.async false
set_option linter.all false
set_option maxRecDepth 100000
set_option maxHeartbeats 4000000
namespace DL
open PySem PySem.Spec PyProof.Rows L2
end DL
set_option Elab.async false
set_option linter.all false
set_option maxRecDepth 100000
set_option maxHeartbeats 4000000
namespace DL
open PySem PySem.Spec PyProof.Rows L2
def sWhile : Nat → M Bool → (DL.Env → Fl) → DL.Env → Fl
  | 0, _, _, _ => .bad
  | n + 1, t, b, env => (t env).fl fun k e => if k = true then (match b e with
    | .nx e2 => sWhile n t b e2
    | .ct e2 => sWhile n t b e2
    | .bk e2 => .nx e2
    | r => r) else .nx e
section
variable {X : Cx} {S : Gd} {W : WX} {c : Expr} {body : List Stmt} {pos : Pos} {t : M Bool} {s : DL.Env → Fl}
theorem ds_while (n : Nat) (hp : PassesOwn (model X.prog X.w) X.A X.env X.xe) (hc : PT X c (tT S W t)) (hb : PSs X body (tS S W s)) : PS X (.While c body [] pos) (tS S W (sWhile n t s)) :=
  PS.imp (ps_while hp hc hb) fun d σ H ⟨F, env, ad, sr, p⟩ => by
    refine ⟨fun m σ H => ∃ F2 e2 ad2, SR S σ H F2 e2 ad2 ∧ PostS S W F2 d (sWhile m t s e2), ⟨n, F, env, ad, sr, p⟩, ?_⟩
    rintro m σ H ⟨F2, e2, ad2, sr2, q2⟩
    cases m with
    | zero => exact q2.elim
    | succ m =>
      refine ⟨F2, e2, ad2, sr2, (Post.fl (show PostS S W F2 d ((t e2).fl _) from q2)).imp fun b e3 H3 F3 ad3 le3 sr3 q3 => ?_⟩
      cases b with
      | false => exact q3 σ H3 F3 ad3 (Le.refl F3) sr3
      | true =>
        simp only [if_true] at q3
        rw [if_pos rfl]
        refine ⟨fun σ' H' => ∃ F4 e4 ad4, SR S σ' H' F4 e4 ad4 ∧ PostS S W F4 d (sWhile m t s e4), fun σ' H' z => ⟨m, Nat.lt_succ_self m, z⟩, F3, e3, ad3, sr3, ?_⟩
        cases q4 : s e3 with
        | nx e4 =>
          rw [q4] at q3
          exact fun σ5 H5 F5 ad5 le5 sr5 => ⟨F5, e4, ad5, sr5, PostS.le q3 le5⟩
        | ct e4 =>
          rw [q4] at q3
          exact fun σ5 H5 F5 ad5 le5 sr5 => ⟨F5, e4, ad5, sr5, PostS.le q3 le5⟩
        | bk e4 =>
          rw [q4] at q3
          exact fun σ5 H5 F5 ad5 le5 sr5 => q3 σ5 H5 F5 ad5 le5 sr5
        | rt x e4 =>
          rw [q4] at q3
          exact fun σ5 H5 F5 ad5 v le5 sr5 => q3 σ5 H5 F5 ad5 v le5 sr5
        | exc x e4 =>
          rw [q4] at q3
          exact fun C σ5 H5 F5 ad5 hc le5 sr5 => q3 C σ5 H5 F5 ad5 hc le5 sr5
        | bad => rw [q4] at q3; exact q3.elim
end
end DL
namespace DL
open PySem PySem.Spec PyProof.Rows L2
def eqN : D → D → Option D
  | .lst xs, .lst [] => some (.bl xs.isEmpty)
  | _, _ => none
def rEqN (K : PySem.W.Frag) : R2 := fun x y H Q => ∃ p q xs, x = .ref p ∧ y = .ref q ∧ SqL K H p xs ∧ SqL K H q [] ∧ Q (.bl xs.isEmpty) H
theorem nil_vals {its : List Value} (r : Vals [] its) : its = [] := by cases r; rfl
section
variable {X : Cx}
theorem op_eqN (hu : X.A.units + 64 < cLine) : OpR X (compareOp .Eq) (rEqN X.K) := by
  intro pins s σ H x y v u Q I rx ry h
  obtain ⟨p, q, xs, rfl, rfl, h1, h2, hq⟩ := h
  cases rx
  cases ry
  obtain ⟨i1, r1, ⟨o1, n1, a1, b1, _, c1⟩, _⟩ := I.list h1
  obtain ⟨i2, r2, ⟨o2, n2, a2, b2, _, c2⟩, _⟩ := I.list h2
  have l1 : s.heap.IsList p i1.toArray := ⟨o1, a1, b1, n1, c1⟩
  have l2 : s.heap.IsList q i2.toArray := ⟨o2, a2, b2, n2, c2⟩
  have e2 := nil_vals r2
  subst e2
  cases xs with
  | nil =>
    have e1 := nil_vals r1
    subst e1
    exact SeqAt.eq_listAt (e := fun _ => true) l1 l2 rfl (by omega) (fun j h1 _ => absurd h1 (by simp)) ⟨.bl true, H, I, rfl, hq⟩
  | cons a b =>
    have e1 := r1.length
    exact SeqAt.eq_list_lengthsAt l1 l2 (by simp at e1 ⊢; intro z; rw [z] at e1; simp at e1) (by omega) ⟨.bl false, H, I, rfl, hq⟩
variable {S : Gd}
theorem RpAll.isEmpty {T : Tb} {F : Hp} {vs : List V} {ds : List D} (r : RpAll T F vs ds) : vs.isEmpty = ds.isEmpty := by
  cases r <;> rfl
theorem ow_eqN : OpW S (rEqN S.T.K) eqN := fun σ H F env ad x y a b d Q sr ra rb e k => by
  cases ra with
  | lst h1 r1 =>
    cases rb with
    | lst h2 r2 =>
      cases r2 with
      | nil =>
        cases e
        refine ⟨_, _, _, rfl, rfl, .of h1, .of h2, ?_⟩
        rw [r1.isEmpty]
        exact k _ H F ad (Le.refl F) sr (.bl _)
      | cons _ _ => cases e
    | _ => cases e
  | _ => cases e
end
end DL
set_option Elab.async false
set_option linter.all false
set_option maxRecDepth 100000
set_option maxHeartbeats 2000000
namespace DL
open PySem PySem.Spec PyProof.Rows L2 L2H HotX LamX
def czS (ns : List Int) (k : Nat) : Int := if ns = [] then (k : Int) * 7919 else ns.getD (k % ns.length) 0 + ((k / ns.length : Nat) : Int) * 104729
def cntS (ns : List Int) (hi : Int) : Nat := if (if (ns.length : Int) < hi then (ns.length : Int) else hi) > 1 then (if (ns.length : Int) < hi then (ns.length : Int) else hi).toNat else 1
theorem tabs_nil {H : Hp} {T : List (Addr × Str)} (h : ∀ p ∈ T, H p.1 = some (.tbl #[])) : TabsX T H :=
  ⟨fun p hp => ⟨#[], h p hp, trivial, fun pos cv hc => by cases hc⟩, fun _ _ _ => trivial⟩
def noTb (H : Hp) : Hp := fun x => match H x with
  | some (.tbl _) => none
  | o => o
theorem noTb_le (H : Hp) : Le (noTb H) H := fun a o e => by
  unfold noTb at e
  split at e
  · cases e
  · exact e
theorem noTb_nt {H : Hp} {a : Addr} {o : HO} (e : noTb H a = some o) : NoTbl o := fun ps z => by
  unfold noTb at e
  split at e
  · cases e
  · rename_i h
    rw [z] at e
    exact h ps e
theorem law_sp {T : Tb} {φ : Fn} {H : Hp} {a : Addr} {ns : List Int} {as : List Slot} (hT : ∀ p ∈ T.tabs, H p.1 = some (.tbl #[])) (hS : SqL T.K H a (ns.map V.int)) (hφ : φ [.dat (.scr ns)] = .rt (.bl true) as) :
    spF T 1 φ [.ref a] H (fun v _ => v = .bl true) fun _ _ _ => False := by
  refine ⟨noTb H, [.dat (.scr ns)], fun _ => [], [], rfl, ?_, rfl, ?_⟩
  · refine ⟨rfl, noTb_le H, fun i s e => ?_, fun _ _ => rfl, fun i j a z => (by cases z), fun i a z => (by cases z), fun a o _ e _ => e, tabs_nil hT, fun a o e => noTb_nt e, fun a o e => .inl e, Le.refl _, fun a e => e, fun i o e => rfl⟩
    cases i with
    | zero =>
      cases e
      refine ⟨rfl, .ref a, rfl, .scr ?_⟩
      rcases hS with h | h
      · refine .inl ?_
        rcases h with h | ⟨o, h⟩
        · exact .inl (by show noTb H a = _; unfold noTb; rw [h])
        · exact .inr ⟨o, by show noTb H a = _; unfold noTb; rw [h]⟩
      · exact .inr h
    | succ i => cases e
  · rw [hφ]
    intro v H' F' ad' _ _ r
    cases r
    rfl
end DL
set_option Elab.async false
set_option linter.all false
set_option maxRecDepth 100000
set_option maxHeartbeats 2000000
namespace DL
open PySem L2
@[simp] theorem bind_ok {α β : Type} (a : α) (e : DL.Env) (f : α → DL.Env → Res β) : (Res.ok a e).bind f = f a e := rfl
@[simp] theorem bind_exc {α β : Type} (c : Str) (e : DL.Env) (f : α → DL.Env → Res β) : (Res.exc c e : Res α).bind f = .exc c e := rfl
@[simp] theorem bind_bad {α β : Type} (f : α → DL.Env → Res β) : (Res.bad : Res α).bind f = .bad := rfl
@[simp] theorem fl_ok {α : Type} (a : α) (e : DL.Env) (f : α → DL.Env → Fl) : (Res.ok a e).fl f = f a e := rfl
@[simp] theorem fl_exc {α : Type} (c : Str) (e : DL.Env) (f : α → DL.Env → Fl) : (Res.exc c e : Res α).fl f = .exc c e := rfl
@[simp] theorem fl_bad {α : Type} (f : α → DL.Env → Fl) : (Res.bad : Res α).fl f = .bad := rfl
@[simp] theorem lift_some {α : Type} (a : α) (e : DL.Env) : lift (some a) e = .ok a e := rfl
@[simp] theorem lift_none {α : Type} (e : DL.Env) : lift (none : Option α) e = .bad := rfl
def Fl.thn : Fl → (DL.Env → Fl) → Fl
  | .nx e, t => t e
  | r, _ => r
@[simp] theorem thn_nx (e : DL.Env) (t : DL.Env → Fl) : (Fl.nx e).thn t = t e := rfl
@[simp] theorem thn_rt (d : D) (e : DL.Env) (t : DL.Env → Fl) : (Fl.rt d e).thn t = .rt d e := rfl
@[simp] theorem thn_exc (c : Str) (e : DL.Env) (t : DL.Env → Fl) : (Fl.exc c e).thn t = .exc c e := rfl
@[simp] theorem thn_bk (e : DL.Env) (t : DL.Env → Fl) : (Fl.bk e).thn t = .bk e := rfl
@[simp] theorem thn_ct (e : DL.Env) (t : DL.Env → Fl) : (Fl.ct e).thn t = .ct e := rfl
theorem v_sSeq (s t : DL.Env → Fl) (env : DL.Env) : sSeq s t env = (s env).thn t := by
  unfold sSeq
  cases s env <;> rfl
def Fl.turn : Fl → (DL.Env → Fl) → Fl
  | .nx e, k => k e
  | .ct e, k => k e
  | .bk e, _ => .nx e
  | r, _ => r
@[simp] theorem turn_nx (e : DL.Env) (t : DL.Env → Fl) : (Fl.nx e).turn t = t e := rfl
@[simp] theorem turn_ct (e : DL.Env) (t : DL.Env → Fl) : (Fl.ct e).turn t = t e := rfl
@[simp] theorem turn_bk (e : DL.Env) (t : DL.Env → Fl) : (Fl.bk e).turn t = .nx e := rfl
@[simp] theorem turn_rt (d : D) (e : DL.Env) (t : DL.Env → Fl) : (Fl.rt d e).turn t = .rt d e := rfl
@[simp] theorem turn_exc (c : Str) (e : DL.Env) (t : DL.Env → Fl) : (Fl.exc c e).turn t = .exc c e := rfl
def optFl (o : Option DL.Env) (t : DL.Env → Fl) : Fl := match o with
  | some e => t e
  | none => .bad
@[simp] theorem optFl_some (e : DL.Env) (t : DL.Env → Fl) : optFl (some e) t = t e := rfl
@[simp] theorem optFl_none (t : DL.Env → Fl) : optFl none t = .bad := rfl
theorem v_for_nil (f : Tg) (b : DL.Env → Fl) (env : DL.Env) : forD f b [] env = .nx env := rfl
theorem v_for_cons (f : Tg) (b : DL.Env → Fl) (d : D) (r : List D) (env : DL.Env) : forD f b (d :: r) env = (optFl (f d env) b).turn fun e => forD f b r e := by
  rw [forD]
  cases f d env with
  | none => rfl
  | some e1 =>
    show (match b e1 with | .nx e2 => forD f b r e2 | .ct e2 => forD f b r e2 | .bk e2 => .nx e2 | .rt x e2 => .rt x e2 | .exc c e2 => .exc c e2 | .bad => .bad) = (b e1).turn _
    cases b e1 <;> rfl
theorem v_sFor (mi : M (List D)) (f : Tg) (b : DL.Env → Fl) (env : DL.Env) : sFor mi f b env = (mi env).fl fun ds e => forD f b ds e := rfl
theorem v_sAsg (m : M D) (f : Tg) (env : DL.Env) : sAsg m f env = (m env).fl fun d e => optFl (f d e) .nx := by
  show ((m env).fl fun d e => match f d e with | some e' => .nx e' | none => .bad) = _
  congr 1
theorem v_gNm (i : Nat) (d : D) (env : DL.Env) : gNm i d env = some (env.set i (.dat d)) := rfl
theorem v_gTu (n : Nat) (g : Tgs) (ds : List D) (env : DL.Env) : gTu n g (.tup ds) env = if ds.length = n then g ds env else none := rfl
theorem v_gNo (env : DL.Env) : gNo [] env = some env := rfl
theorem v_gCo (f : Tg) (g : Tgs) (d : D) (r : List D) (env : DL.Env) : gCo f g (d :: r) env = (f d env).bind fun e => g r e := rfl
theorem v_sRet (m : M D) (env : DL.Env) : sRet m env = (m env).fl fun d e => .rt d e := rfl
theorem v_sExp (m : M D) (env : DL.Env) : sExp m env = (m env).fl fun _ e => .nx e := rfl
theorem v_sIf (t : M Bool) (a b : DL.Env → Fl) (env : DL.Env) : sIf t a b env = (t env).fl fun k e => if k = true then a e else b e := rfl
theorem v_sNil (env : DL.Env) : sNil env = .nx env := rfl
theorem v_sRaise (c : Str) (env : DL.Env) : sRaise c env = .exc c env := rfl
theorem v_sBrk (env : DL.Env) : sBrk env = .bk env := rfl
def endF (args : List Slot) : Fl → FRes
  | .rt d e => (match backA args e with
    | some as => .rt d as
    | none => .bad)
  | .nx e => (match backA args e with
    | some as => .rt .non as
    | none => .bad)
  | .exc c e => (match backA args e with
    | some as => .exc c as
    | none => .bad)
  | _ => .bad
theorem v_fnD (n : Nat) (body : DL.Env → Fl) (args : List Slot) : fnD n body args = endF args (body (args ++ List.replicate (n - args.length) .emp)) := by
  unfold fnD
  generalize body (args ++ List.replicate (n - args.length) .emp) = r
  cases r <;> rfl
theorem v_eC (d : D) (env : DL.Env) : eC d env = .ok d env := rfl
def readS (i : Nat) (env : DL.Env) : Option Slot → Res D
  | some (.dat d) => .ok d env
  | some (.own o) => (match o.dat? with
    | some d => .ok d (env.set i (.dat d))
    | none => .bad)
  | _ => .bad
theorem v_eVar (i : Nat) (env : DL.Env) : eVar i env = readS i env env[i]? := by
  unfold eVar
  generalize env[i]? = r
  match r with
  | none => rfl
  | some .emp => rfl
  | some (.dat _) => rfl
  | some (.own _) => rfl
  | some (.lent _) => rfl
@[simp] theorem readS_dat (i : Nat) (env : DL.Env) (d : D) : readS i env (some (.dat d)) = .ok d env := rfl
@[simp] theorem readS_ol (i : Nat) (env : DL.Env) (xs : List D) : readS i env (some (.own (.ol xs))) = .ok (.lst xs) (env.set i (.dat (.lst xs))) := rfl
def lookS (env : DL.Env) : Option Slot → Res D
  | some (.dat d) => .ok d env
  | some (.own o) => lift o.dat? env
  | some (.lent o) => lift o.dat? env
  | _ => .bad
theorem v_wVar (i : Nat) (env : DL.Env) : wVar i env = lookS env env[i]? := by
  unfold wVar
  generalize env[i]? = r
  match r with
  | none => rfl
  | some .emp => rfl
  | some (.dat _) => rfl
  | some (.own _) => rfl
  | some (.lent _) => rfl
@[simp] theorem lookS_dat (env : DL.Env) (d : D) : lookS env (some (.dat d)) = .ok d env := rfl
@[simp] theorem lookS_ol (env : DL.Env) (xs : List D) : lookS env (some (.own (.ol xs))) = .ok (.lst xs) env := rfl
@[simp] theorem lookS_ll (env : DL.Env) (xs : List D) : lookS env (some (.lent (.ol xs))) = .ok (.lst xs) env := rfl
theorem v_eOp (f : D → D → Option D) (a b : M D) (env : DL.Env) : eOp f a b env = (a env).bind fun x e1 => (b e1).bind fun y e2 => lift (f x y) e2 := rfl
theorem v_eUn (f : D → Option D) (a : M D) (env : DL.Env) : eUn f a env = (a env).bind fun x e1 => lift (f x) e1 := rfl
def boolD : D → DL.Env → Res Bool
  | .bl b, e => .ok b e
  | _, _ => .bad
@[simp] theorem boolD_bl (b : Bool) (e : DL.Env) : boolD (.bl b) e = .ok b e := rfl
theorem v_asB (m : M D) (env : DL.Env) : asB m env = (m env).bind boolD := by
  unfold asB
  congr 1
  funext d e
  cases d <;> rfl
theorem v_bAnd (t u : M Bool) (env : DL.Env) : bAnd t u env = (t env).bind fun b e => if b = true then u e else .ok false e := rfl
theorem v_bOr (t u : M Bool) (env : DL.Env) : bOr t u env = (t env).bind fun b e => if b = true then .ok true e else u e := rfl
theorem v_bNot (t : M Bool) (env : DL.Env) : bNot t env = (t env).bind fun b e => .ok (!b) e := rfl
theorem v_eIf (t : M Bool) (a b : M D) (env : DL.Env) : eIf t a b env = (t env).bind fun k e => if k = true then a e else b e := rfl
theorem v_eAnd (a b : M D) (env : DL.Env) : eAnd a b env = (asB a env).bind fun k e => if k = true then b e else .ok (.bl false) e := rfl
theorem v_eOr (a b : M D) (env : DL.Env) : eOr a b env = (asB a env).bind fun k e => if k = true then .ok (.bl true) e else b e := rfl
theorem v_eNot (a : M D) (env : DL.Env) : eNot a env = (asB a env).bind fun k e => .ok (.bl (!k)) e := rfl
theorem v_bYes (env : DL.Env) : bYes env = .ok true env := rfl
theorem v_aNil (env : DL.Env) : aNil env = .ok [] env := rfl
theorem v_aCons (m : M D) (l : M (List D)) (env : DL.Env) : aCons m l env = (m env).bind fun d e => (l e).bind fun ds e2 => .ok (d :: ds) e2 := rfl
theorem v_eTup (l : M (List D)) (env : DL.Env) : eTup l env = (l env).bind fun ds e => if ds.length ≤ 1000 then .ok (.tup ds) e else .bad := rfl
theorem v_eLst (l : M (List D)) (env : DL.Env) : eLst l env = (l env).bind fun ds e => if ds.length ≤ 1000 then .ok (.lst ds) e else .bad := rfl
theorem v_oLst (l : M (List D)) (env : DL.Env) : oLst l env = (l env).bind fun ds e => if ds.length ≤ 1000 then .ok (.ol ds) e else .bad := rfl
theorem v_eCall (f : List D → Option D) (l : M (List D)) (env : DL.Env) : eCall f l env = (l env).bind fun ds e => lift (f ds) e := rfl
theorem v_eFrz (m : M Own) (env : DL.Env) : eFrz m env = (m env).bind fun o e => lift o.dat? e := rfl
@[simp] theorem dat_ol (xs : List D) : (Own.ol xs).dat? = some (.lst xs) := rfl
theorem v_sOwn (m : M Own) (i : Nat) (env : DL.Env) : sOwn m i env = (m env).fl fun o e => .nx (e.set i (.own o)) := rfl
theorem v_iLst (m : M D) (env : DL.Env) : iLst m env = (m env).bind fun d e => (match d with | .lst ds => .ok ds e | _ => .bad) := rfl
theorem v_iTpl (m : M D) (env : DL.Env) : iTpl m env = (m env).bind fun d e => (match d with | .tup ds => .ok ds e | _ => .bad) := rfl
theorem v_xNil (env : DL.Env) : xNil env = .ok [] env := rfl
theorem v_xDat (m : M D) (l : M AL) (env : DL.Env) : xDat m l env = (m env).bind fun d e => (l e).bind fun as e2 => .ok (some d :: as) e2 := rfl
def callR (env : DL.Env) (i : Nat) (as : AL) : FRes → Res D
  | .rt d ss => (match backX env i as ss with
    | some e2 => .ok d e2
    | none => .bad)
  | .exc c ss => (match backX env i as ss with
    | some e2 => .exc c e2
    | none => .bad)
  | .bad => .bad
theorem v_runX (i n : Nat) (φ : Fn) (as : AL) (env : DL.Env) : runX i n φ as env = if as.length = n then (match slotsX ((env[i]?).bind Slot.ow) as with | some ss => callR env i as (φ ss) | none => .bad) else .bad := by
  unfold runX
  congr 1
  generalize slotsX ((env[i]?).bind Slot.ow) as = o
  cases o with
  | none => rfl
  | some ss =>
    show (match φ ss with | .rt d ss' => (match backX env i as ss' with | some e2 => Res.ok d e2 | none => .bad) | .exc c ss' => (match backX env i as ss' with | some e2 => Res.exc c e2 | none => .bad) | .bad => .bad) = callR env i as (φ ss)
    cases φ ss <;> rfl
theorem v_eFn (i n : Nat) (φ : Fn) (l : M AL) (env : DL.Env) : eFn i n φ l env = (l env).bind fun as e => runX i n φ as e := rfl
@[simp] theorem noX_ok' {α : Type} (a : α) (e : DL.Env) : noX (Res.ok a e) = .ok a e := rfl
theorem v_oLc (vs : List Nat) (mi : M (List D)) (f : Tg) (tt : M Bool) (te : M D) (env : DL.Env) : oLc vs mi f tt te env = (mi env).bind fun ds e => if ds.length ≤ 1000000 then (compD vs f tt te ds (wipeE e vs)).bind fun ys e2 => .ok (.ol ys) (back1 e (wipeE e2 vs) vs) else .bad := rfl
@[simp] theorem addD_int (i j : Int) : addD (.int i) (.int j) = some (.int (i + j)) := rfl
@[simp] theorem subD_int (i j : Int) : subD (.int i) (.int j) = some (.int (i - j)) := rfl
@[simp] theorem mulD_int (i j : Int) : mulD (.int i) (.int j) = if mulOk i j = true then some (.int (i * j)) else none := rfl
@[simp] theorem divD_int (i j : Int) : divD (.int i) (.int j) = if 0 < j ∧ j.natAbs.log2 < 9000 then some (.int (i / j)) else none := rfl
@[simp] theorem modD_int (i j : Int) : modD (.int i) (.int j) = if 0 < j then some (.int (i % j)) else none := rfl
@[simp] theorem ltD_int (i j : Int) : ltD (.int i) (.int j) = some (.bl (decide (i < j))) := rfl
@[simp] theorem leD_int (i j : Int) : leD (.int i) (.int j) = some (.bl (decide (i ≤ j))) := rfl
@[simp] theorem gtD_int (i j : Int) : gtD (.int i) (.int j) = some (.bl (decide (j < i))) := rfl
@[simp] theorem geD_int (i j : Int) : geD (.int i) (.int j) = some (.bl (decide (j ≤ i))) := rfl
theorem sh_int (i : Int) : (D.int i).sh = true := by
  unfold D.sh SeqAt.shaped
  rw [D.toP]
  simp [PyData.canLay0, PyData.depth]
theorem sh_bl (i : Bool) : (D.bl i).sh = true := by
  unfold D.sh SeqAt.shaped
  rw [D.toP]
  simp [PyData.canLay0, PyData.depth]
@[simp] theorem eqD_int (i j : Int) : eqD (.int i) (.int j) = some (.bl (decide (i = j))) := by
  unfold eqD
  rw [sh_int, sh_int]
  show some (D.bl (D.eqv _ _)) = _
  unfold D.eqv
  rw [D.toP, D.toP, PyData.eqv]
  rfl
@[simp] theorem neD_int (i j : Int) : neD (.int i) (.int j) = some (.bl (!decide (i = j))) := by
  unfold neD
  rw [sh_int, sh_int]
  show some (D.bl (!D.eqv _ _)) = _
  unfold D.eqv
  rw [D.toP, D.toP, PyData.eqv]
  rfl
@[simp] theorem eqD_bl (i j : Bool) : eqD (.bl i) (.bl j) = some (.bl (i == j)) := by
  unfold eqD
  rw [sh_bl, sh_bl]
  show some (D.bl (D.eqv _ _)) = _
  unfold D.eqv
  rw [D.toP, D.toP, PyData.eqv]
@[simp] theorem neD_bl (i j : Bool) : neD (.bl i) (.bl j) = some (.bl (!(i == j))) := by
  unfold neD
  rw [sh_bl, sh_bl]
  show some (D.bl (!D.eqv _ _)) = _
  unfold D.eqv
  rw [D.toP, D.toP, PyData.eqv]
@[simp] theorem ixD_lst (ds : List D) (i : Int) : ixD (.lst ds) (.int i) = atI ds i := rfl
@[simp] theorem ixD_tup (ds : List D) (i : Int) : ixD (.tup ds) (.int i) = atI ds i := rfl
@[simp] theorem lenD_lst (ds : List D) : lenD (.lst ds) = some (.int ds.length) := rfl
@[simp] theorem lenD_tup (ds : List D) : lenD (.tup ds) = some (.int ds.length) := rfl
@[simp] theorem tupleD_lst (ds : List D) : tupleD [.lst ds] = some (.tup ds) := rfl
@[simp] theorem tupleD_tup (ds : List D) : tupleD [.tup ds] = some (.tup ds) := rfl
@[simp] theorem listD_lst (ds : List D) : listD [.lst ds] = some (.lst ds) := rfl
@[simp] theorem listD_tup (ds : List D) : listD [.tup ds] = some (.lst ds) := rfl
theorem bls_map {α : Type} (f : α → Bool) : ∀ xs : List α, blsD (xs.map fun x => .bl (f x)) = some (xs.map f)
  | [] => rfl
  | x :: r => by rw [List.map_cons, List.map_cons, blsD, bls_map f r]; rfl
theorem ints_map {α : Type} (f : α → Int) : ∀ xs : List α, intsD (xs.map fun x => .int (f x)) = some (xs.map f)
  | [] => rfl
  | x :: r => by rw [List.map_cons, List.map_cons, intsD, ints_map f r]; rfl
@[simp] theorem allD_map {α : Type} (f : α → Bool) (xs : List α) : allD [.lst (xs.map fun x => .bl (f x))] = some (.bl (xs.all f)) := by
  show (blsD _).map _ = _
  rw [bls_map]
  simp
@[simp] theorem anyD_map {α : Type} (f : α → Bool) (xs : List α) : anyD [.lst (xs.map fun x => .bl (f x))] = some (.bl (xs.any f)) := by
  show (blsD _).map _ = _
  rw [bls_map]
  simp
@[simp] theorem sumD_map {α : Type} (f : α → Int) (xs : List α) : sumD [.lst (xs.map fun x => .int (f x))] = some (.int (xs.map f).sum) := by
  show (intsD _).map _ = _
  rw [ints_map]
  rfl
end DL
set_option Elab.async false
set_option linter.all false
set_option maxRecDepth 100000
set_option maxHeartbeats 0
namespace LW
open PySem PySem.Spec PyProof.Rows L2 L2H HotX LamX DL
def b_law_cell : DL.Env → Fl := (sSeq (sIf (asB (eOp eqD (eVar 0) (eLst aNil))) (sRet (eOp mulD (eVar 1) (eC (.int 7919)))) sNil) (sRet (eOp addD (eOp ixD (eVar 0) (eOp modD (eVar 1) (eUn lenD (eVar 0)))) (eOp mulD (eOp divD (eVar 1) (eUn lenD (eVar 0))) (eC (.int 104729))))))
def f_law_cell : Fn := fnD 2 b_law_cell
def b_law_drawn : DL.Env → Fl := (sSeq (sAsg (eOp modD (eOp addD (eOp mulD (eVar 0) (eC (.int 6364136223846793005))) (eOp mulD (eOp addD (eVar 1) (eC (.int 1))) (eC (.int 1442695040888963407)))) (eC (.int 340282366920938463463374607431768211507))) (gNm 2)) (sSeq (sAsg (eOp modD (eOp mulD (eVar 2) (eVar 2)) (eC (.int 340282366920938463463374607431768211297))) (gNm 2)) (sSeq (sAsg (eOp mulD (eOp mulD (eOp addD (eOp modD (eVar 2) (eC (.int 18446744073709551557))) (eC (.int 1))) (eOp addD (eOp divD (eVar 2) (eC (.int 18446744073709551557))) (eC (.int 1)))) (eVar 2)) (gNm 2)) (sRet (eOp modD (eVar 2) (eC (.int 340282366920938463463374607431768211507)))))))
def f_law_drawn : Fn := fnD 3 b_law_drawn
def b_law_roll : DL.Env → Fl := (sSeq (sIf (asB (eOp geD (eIxV 0 (eC (.int 0))) (eOp powD (eC (.int 10)) (eC (.int 18))))) (sSeq (sAsg (eOp modD (eIxV 0 (eC (.int 0))) (eVar 1)) (gNm 2)) (sSeq (sSetI 0 (eC (.int 0)) (eOp divD (eIxV 0 (eC (.int 0))) (eVar 1))) (sRet (eVar 2)))) sNil) (sSeq (sSetI 0 (eC (.int 1)) (eOp addD (eIxV 0 (eC (.int 1))) (eC (.int 1)))) (sRet (eOp modD (eOp divD (eFn 0 2 f_law_drawn (xDat (eIxV 0 (eC (.int 0))) (xDat (eIxV 0 (eC (.int 1))) xNil))) (eC (.int 8))) (eVar 1)))))
def f_law_roll : Fn := fnD 3 b_law_roll
def b_is_letters : DL.Env → Fl := (sSeq (sIf (bOr (bNot (asB (eUn (isiD "str") (eVar 0)))) (bOr (bNot (asB (eChain leD leD (eC (.int 1)) (eUn lenD (eVar 0)) (eC (.int 3))))) (bNot (asB (eCall allD (aCons (eFrz (oLc [3] (iStr (eVar 0)) (gNm 3) bYes (eOp inD (eVar 3) (eC (.str "abc"))))) aNil)))))) (sRet (eC (.bl false))) sNil) (sRet (eCall allD (aCons (eFrz (oLc [1, 2] (iZp (aCons (eVar 0) (aCons (eSl (eVar 0) (pSo (eC (.int 1))) pNo) aNil))) (gTu 2 (gCo (gNm 1) (gCo (gNm 2) gNo))) bYes (eOp ltD (eVar 1) (eVar 2)))) aNil))))
def f_is_letters : Fn := fnD 4 b_is_letters
def b_has_shape (r : Fn) : DL.Env → Fl := (sSeq (sIf (bOr (asB (eOp eqD (eVar 1) (eC (.int 0)))) (bOr (bNot (asB (eUn (isiD "tuple") (eVar 0)))) (bOr (asB (eOp neD (eUn lenD (eVar 0)) (eC (.int 2)))) (bNot (asB (eUn (isiD "str") (eOp ixD (eVar 0) (eC (.int 0))))))))) (sRet (eC (.bl false))) sNil) (sSeq (sIf (asB (eOp eqD (eOp ixD (eVar 0) (eC (.int 0))) (eC (.str "set")))) (sRet (eFn 0 1 f_is_letters (xDat (eOp ixD (eVar 0) (eC (.int 1))) xNil))) sNil) (sSeq (sIf (asB (eOp inD (eOp ixD (eVar 0) (eC (.int 0))) (eTup (aCons (eC (.str "seq")) (aCons (eC (.str "alt")) aNil))))) (sSeq (sIf (bOr (bNot (asB (eUn (isiD "tuple") (eOp ixD (eVar 0) (eC (.int 1)))))) (bNot (asB (eChain leD leD (eC (.int 2)) (eUn lenD (eOp ixD (eVar 0) (eC (.int 1)))) (eC (.int 4)))))) (sRet (eC (.bl false))) sNil) (sRet (eCall allD (aCons (eFrz (oLc [2] (iTpl (eOp ixD (eVar 0) (eC (.int 1)))) (gNm 2) bYes (eFn 0 2 r (xDat (eVar 2) (xDat (eOp subD (eVar 1) (eC (.int 1))) xNil))))) aNil)))) sNil) (sRet (eAnd (eOp inD (eOp ixD (eVar 0) (eC (.int 0))) (eTup (aCons (eC (.str "opt")) (aCons (eC (.str "star")) aNil)))) (eFn 0 2 r (xDat (eOp ixD (eVar 0) (eC (.int 1))) (xDat (eOp subD (eVar 1) (eC (.int 1))) xNil))))))))
def f_has_shape : Nat → Fn
  | 0 => noFn
  | k + 1 => fnD 3 (b_has_shape (f_has_shape k))
def b_items_of : DL.Env → Fl := (sSeq (sIf (asB (eOp eqD (eOp ixD (eVar 0) (eC (.int 0))) (eC (.str "set")))) (sRet (eTup aNil)) sNil) (sRet (eIf (asB (eOp inD (eOp ixD (eVar 0) (eC (.int 0))) (eTup (aCons (eC (.str "seq")) (aCons (eC (.str "alt")) aNil))))) (eOp ixD (eVar 0) (eC (.int 1))) (eTup (aCons (eOp ixD (eVar 0) (eC (.int 1))) aNil)))))
def f_items_of : Fn := fnD 1 b_items_of
def b_nullable (r : Fn) : DL.Env → Fl := (sSeq (sOwn (oLc [2] (iTpl (eFn 0 1 f_items_of (xDat (eVar 0) xNil))) (gNm 2) bYes (eFn 0 1 r (xDat (eVar 2) xNil))) 1) (sSeq (sIf (asB (eOp eqD (eOp ixD (eVar 0) (eC (.int 0))) (eC (.str "seq")))) (sRet (eCall allD (aCons (eVar 1) aNil))) sNil) (sRet (eIf (asB (eOp eqD (eOp ixD (eVar 0) (eC (.int 0))) (eC (.str "alt")))) (eCall anyD (aCons (eVar 1) aNil)) (eOp inD (eOp ixD (eVar 0) (eC (.int 0))) (eTup (aCons (eC (.str "opt")) (aCons (eC (.str "star")) aNil))))))))
def f_nullable : Nat → Fn
  | 0 => noFn
  | k + 1 => fnD 3 (b_nullable (f_nullable k))
def b_stars_are_good (r : Fn) : DL.Env → Fl := (sSeq (sIf (bAnd (asB (eOp eqD (eOp ixD (eVar 0) (eC (.int 0))) (eC (.str "star")))) (asB (eFn 0 1 (f_nullable 20) (xDat (eOp ixD (eVar 0) (eC (.int 1))) xNil)))) (sRet (eC (.bl false))) sNil) (sRet (eCall allD (aCons (eFrz (oLc [1] (iTpl (eFn 0 1 f_items_of (xDat (eVar 0) xNil))) (gNm 1) bYes (eFn 0 1 r (xDat (eVar 1) xNil)))) aNil))))
def f_stars_are_good : Nat → Fn
  | 0 => noFn
  | k + 1 => fnD 2 (b_stars_are_good (f_stars_are_good k))
def b_node_count (r : Fn) : DL.Env → Fl := (sRet (eOp addD (eC (.int 1)) (eCall sumD (aCons (eFrz (oLc [1] (iTpl (eFn 0 1 f_items_of (xDat (eVar 0) xNil))) (gNm 1) bYes (eFn 0 1 r (xDat (eVar 1) xNil)))) aNil))))
def f_node_count : Nat → Fn
  | 0 => noFn
  | k + 1 => fnD 2 (b_node_count (f_node_count k))
def b_all_sets (r : Fn) : DL.Env → Fl := (sSeq (sIf (asB (eOp eqD (eOp ixD (eVar 0) (eC (.int 0))) (eC (.str "set")))) (sRet (eTup (aCons (eOp ixD (eVar 0) (eC (.int 1))) aNil))) sNil) (sSeq (sAsg (eTup aNil) (gNm 1)) (sSeq (sFor (iTpl (eFn 0 1 f_items_of (xDat (eVar 0) xNil))) (gNm 2) (sAsg (eOp addD (eVar 1) (eFn 0 1 r (xDat (eVar 2) xNil))) (gNm 1))) (sRet (eVar 1)))))
def f_all_sets : Nat → Fn
  | 0 => noFn
  | k + 1 => fnD 3 (b_all_sets (f_all_sets k))
def b_is_pattern : DL.Env → Fl := (sSeq (sIf (bNot (asB (eFn 0 2 (f_has_shape 20) (xDat (eVar 0) (xDat (eOp addD (eC (.int 16)) (eC (.int 1))) xNil))))) (sRet (eC (.bl false))) sNil) (sRet (eAnd (eOp leD (eFn 0 1 (f_node_count 20) (xDat (eVar 0) xNil)) (eC (.int 16))) (eAnd (eOp leD (eUn lenD (eFn 0 1 (f_all_sets 20) (xDat (eVar 0) xNil))) (eC (.int 8))) (eFn 0 1 (f_stars_are_good 20) (xDat (eVar 0) xNil))))))
def f_is_pattern : Fn := fnD 1 b_is_pattern
def b_check_pattern : DL.Env → Fl := (sIf (bNot (asB (eFn 0 1 f_is_pattern (xDat (eVar 0) xNil)))) (sRaise "BadPattern") sNil)
def f_check_pattern : Fn := fnD 1 b_check_pattern
def b_growth_x : DL.Env → Fl := (sSeq (sExp (eFn 0 1 f_check_pattern (xDat (eVar 0) xNil))) sBad)
def f_growth_x : Fn := fnD 3 b_growth_x
def mx_rounds : M (List D) := (iRg1 (aCons (eCall maxD (aCons (eC (.int 1)) (aCons (eCall minD (aCons (eVar 1) (aCons (eUn lenD (eVar 0)) aNil))) aNil))) aNil))
def b_is_text : DL.Env → Fl := (sRet (eAnd (eUn (isiD "str") (eVar 0)) (eAnd (eOp leD (eUn lenD (eVar 0)) (eVar 1)) (eCall allD (aCons (eFrz (oLc [2] (iStr (eVar 0)) (gNm 2) bYes (eOp inD (eVar 2) (eC (.str "abcx"))))) aNil)))))
def f_is_text : Fn := fnD 3 b_is_text
def b_check_text : DL.Env → Fl := (sIf (bNot (asB (eFn 0 2 f_is_text (xDat (eVar 0) (xDat (eVar 1) xNil))))) (sRaise "BadText") sNil)
def f_check_text : Fn := fnD 2 b_check_text
def b_Run_tried : DL.Env → Fl := (sSeq (sAsg (eC (.int 0)) (gNm 4)) (sSeq (sFor (iLst (eVar 1)) (gNm 5) (sIf (asB (eOp eqD (eVar 5) (eC (.int (-1))))) (sIf (asB (eOp eqD (eVar 2) (eUn lenD (eFldV "Run" "text" 0)))) (sRet (eTup (aCons (eC (.bl true)) (aCons (eVar 4) aNil)))) sNil) (sSeq (sAsg (eOp addD (eVar 4) (eC (.int 1))) (gNm 4)) (sIf (bAnd (asB (eOp ltD (eVar 2) (eUn lenD (eFldV "Run" "text" 0)))) (asB (eOp inD (eOp ixD (eFldV "Run" "text" 0) (eVar 2)) (eOp ixD (eUn (fldD "Machine" "letters") (eFldV "Run" "machine" 0)) (eVar 5))))) (sSeq (sAsg (eOp ixD (eVar 3) (eVar 5)) (gTu 2 (gCo (gNm 6) (gCo (gNm 7) gNo)))) (sSeq (sAsg (eOp addD (eVar 4) (eVar 7)) (gNm 4)) (sIf (asB (eVar 6)) (sRet (eTup (aCons (eC (.bl true)) (aCons (eVar 4) aNil)))) sNil))) sNil)))) (sRet (eTup (aCons (eC (.bl false)) (aCons (eVar 4) aNil))))))
def f_Run_tried : Fn := fnD 8 b_Run_tried
def b_Run_init : DL.Env → Fl := (sSeq (sFldD "Run" "machine" 0 (eVar 1)) (sSeq (sFldD "Run" "text" 0 (eVar 2)) (sSeq (sAsg (eLst aNil) (gNm 3)) (sSeq (sFor (iRg3 (aCons (eUn lenD (eVar 2)) (aCons (eUn negD (eC (.int 1))) (aCons (eUn negD (eC (.int 1))) aNil)))) (gNm 4) (sOwn (oLc [5] (iLst (eOp addD (eFldV "Machine" "follow" 1) (eLst (aCons (eFldV "Machine" "start" 1) aNil)))) (gNm 5) bYes (eMeO "Run" "tried" 0 4 f_Run_tried (xDat (eVar 5) (xDat (eVar 4) (xDat (eVar 3) xNil))))) 3)) (sFldD "Run" "result" 0 (eOp ixD (eVar 3) (eUn negD (eC (.int 1)))))))))
def f_Run_init : Fn := fnD 6 b_Run_init
def b_Machine_firsts : DL.Env → Fl := (sSeq (sOwn (oLst aNil) 3) (sSeq (sFor (iTpl (eFn 0 1 f_items_of (xDat (eVar 1) xNil))) (gNm 4) (sSeq (sExp (eApp 3 (eVar 2))) (sAsg (eOp addD (eVar 2) (eUn lenD (eFn 0 1 (f_all_sets 20) (xDat (eVar 4) xNil)))) (gNm 2)))) (sRet (eVar 3))))
def f_Machine_firsts : Fn := fnD 5 b_Machine_firsts
def b_Machine_choices (r : Fn) : DL.Env → Fl := (sSeq (sIf (asB (eOp eqD (eOp ixD (eVar 1) (eC (.int 0))) (eC (.str "set")))) (sRet (eLst (aCons (eVar 2) aNil))) sNil) (sSeq (sIf (asB (eOp eqD (eOp ixD (eVar 1) (eC (.int 0))) (eC (.str "star")))) (sRet (eOp addD (eMeO "Machine" "choices" 0 4 r (xDat (eOp ixD (eVar 1) (eC (.int 1))) (xDat (eVar 2) (xDat (eLst aNil) xNil)))) (eVar 3))) sNil) (sSeq (sIf (asB (eOp eqD (eOp ixD (eVar 1) (eC (.int 0))) (eC (.str "opt")))) (sRet (eOp addD (eMeO "Machine" "choices" 0 4 r (xDat (eOp ixD (eVar 1) (eC (.int 1))) (xDat (eVar 2) (xDat (eVar 3) xNil)))) (eVar 3))) sNil) (sSeq (sPar 4 5 (aCons (eMeO "Machine" "firsts" 0 3 f_Machine_firsts (xDat (eVar 1) (xDat (eVar 2) xNil))) (aCons (eLst aNil) aNil))) (sSeq (sIf (asB (eOp eqD (eOp ixD (eVar 1) (eC (.int 0))) (eC (.str "alt")))) (sSeq (sFor (iZp (aCons (eOp ixD (eVar 1) (eC (.int 1))) (aCons (eVar 4) aNil))) (gTu 2 (gCo (gNm 6) (gCo (gNm 7) gNo))) (sAsg (eOp addD (eVar 5) (eMeO "Machine" "choices" 0 4 r (xDat (eVar 6) (xDat (eVar 7) (xDat (eVar 3) xNil))))) (gNm 5))) (sRet (eVar 5))) sNil) (sSeq (sFor (iLst (eUn revD (eLz (aCons (eOp ixD (eVar 1) (eC (.int 1))) (aCons (eVar 4) aNil))))) (gTu 2 (gCo (gNm 6) (gCo (gNm 7) gNo))) (sAsg (eMeO "Machine" "choices" 0 4 r (xDat (eVar 6) (xDat (eVar 7) (xDat (eVar 3) xNil)))) (gNm 3))) (sRet (eVar 3))))))))
def f_Machine_choices : Nat → Fn
  | 0 => noFn
  | k + 1 => fnD 8 (b_Machine_choices (f_Machine_choices k))
def b_Machine_assign (r : Fn) : DL.Env → Fl := (sIf (asB (eOp eqD (eOp ixD (eVar 1) (eC (.int 0))) (eC (.str "set")))) (sSetF "Machine" "follow" 0 (qVar 2) (eCall listD (aCons (eVar 3) aNil))) (sIf (asB (eOp eqD (eOp ixD (eVar 1) (eC (.int 0))) (eC (.str "star")))) (sExp (eMeO "Machine" "assign" 0 4 r (xDat (eOp ixD (eVar 1) (eC (.int 1))) (xDat (eVar 2) (xDat (eMeO "Machine" "choices" 0 4 (f_Machine_choices 20) (xDat (eVar 1) (xDat (eVar 2) (xDat (eVar 3) xNil)))) xNil))))) (sIf (asB (eOp eqD (eOp ixD (eVar 1) (eC (.int 0))) (eC (.str "seq")))) (sFor (iLst (eUn revD (eLz (aCons (eOp ixD (eVar 1) (eC (.int 1))) (aCons (eMeO "Machine" "firsts" 0 3 f_Machine_firsts (xDat (eVar 1) (xDat (eVar 2) xNil))) aNil))))) (gTu 2 (gCo (gNm 4) (gCo (gNm 5) gNo))) (sSeq (sExp (eMeO "Machine" "assign" 0 4 r (xDat (eVar 4) (xDat (eVar 5) (xDat (eVar 3) xNil))))) (sAsg (eMeO "Machine" "choices" 0 4 (f_Machine_choices 20) (xDat (eVar 4) (xDat (eVar 5) (xDat (eVar 3) xNil)))) (gNm 3)))) (sFor (iZp (aCons (eFn 0 1 f_items_of (xDat (eVar 1) xNil)) (aCons (eMeO "Machine" "firsts" 0 3 f_Machine_firsts (xDat (eVar 1) (xDat (eVar 2) xNil))) aNil))) (gTu 2 (gCo (gNm 4) (gCo (gNm 5) gNo))) (sExp (eMeO "Machine" "assign" 0 4 r (xDat (eVar 4) (xDat (eVar 5) (xDat (eVar 3) xNil)))))))))
def f_Machine_assign : Nat → Fn
  | 0 => noFn
  | k + 1 => fnD 6 (b_Machine_assign (f_Machine_assign k))
def b_Machine_init : DL.Env → Fl := (sSeq (sFldD "Machine" "letters" 0 (eFn 0 1 (f_all_sets 20) (xDat (eVar 1) xNil))) (sSeq (sFldO "Machine" "follow" 0 (oLc [2] (iTpl (eFldV "Machine" "letters" 0)) (gNm 2) bYes (eLst aNil))) (sSeq (sFldD "Machine" "start" 0 (eMeO "Machine" "choices" 0 4 (f_Machine_choices 20) (xDat (eVar 1) (xDat (eC (.int 0)) (xDat (eLst (aCons (eC (.int (-1))) aNil)) xNil))))) (sExp (eMeO "Machine" "assign" 0 4 (f_Machine_assign 20) (xDat (eVar 1) (xDat (eC (.int 0)) (xDat (eLst (aCons (eC (.int (-1))) aNil)) xNil))))))))
def f_Machine_init : Fn := fnD 3 b_Machine_init
def b_run_of : DL.Env → Fl := (sRet (eUn (fldD "Run" "result") (eFrz (oMake "Run" 3 f_Run_init (xDat (eFrz (oMake "Machine" 2 f_Machine_init (xDat (eVar 0) xNil))) (xDat (eVar 1) xNil))))))
def f_run_of : Fn := fnD 2 b_run_of
def b_steps : DL.Env → Fl := (sSeq (sExp (eFn 0 1 f_check_pattern (xDat (eVar 0) xNil))) (sSeq (sExp (eFn 0 2 f_check_text (xDat (eVar 1) (xDat (eC (.int 60)) xNil)))) (sRet (eOp ixD (eFn 0 2 f_run_of (xDat (eVar 0) (xDat (eVar 1) xNil))) (eC (.int 1))))))
def f_steps : Fn := fnD 2 b_steps
def b_is_integer : DL.Env → Fl := (sRet (eAnd (eUn (isiD "int") (eVar 0)) (eAnd (eNot (eUn (isiD "bool") (eVar 0))) (eChain leD leD (eVar 1) (eVar 0) (eVar 2)))))
def f_is_integer : Fn := fnD 3 b_is_integer
def b_all_texts : DL.Env → Fl := (sSeq (sAsg (eLst (aCons (eC (.str "")) aNil)) (gNm 1)) (sSeq (sFor (iRg1 (aCons (eVar 0) aNil)) (gNm 2) (sCat 1 3 4 "abcx")) (sRet (eVar 1))))
def f_all_texts : Fn := fnD 5 b_all_texts
def b_worst : DL.Env → Fl := (sSeq (sExp (eFn 0 1 f_check_pattern (xDat (eVar 0) xNil))) (sSeq (sIf (bNot (asB (eFn 0 3 f_is_integer (xDat (eVar 1) (xDat (eC (.int 0)) (xDat (eC (.int 5)) xNil)))))) (sRaise "BadLength") sNil) (sSeq (sPar 3 4 (aCons (eFrz (oMake "Machine" 2 f_Machine_init (xDat (eVar 0) xNil))) (aCons (eTup (aCons (eUn negD (eC (.int 1))) (aCons (eC (.str "")) aNil))) aNil))) (sSeq (sFor (iLst (eFn 0 1 f_all_texts (xDat (eVar 1) xNil))) (gNm 2) (sSeq (sAsg (eOp ixD (eUn (fldD "Run" "result") (eFrz (oMake "Run" 3 f_Run_init (xDat (eVar 3) (xDat (eVar 2) xNil))))) (eC (.int 1))) (gNm 5)) (sIf (asB (eOp gtD (eVar 5) (eOp ixD (eVar 4) (eC (.int 0))))) (sAsg (eTup (aCons (eVar 5) (aCons (eVar 2) aNil))) (gNm 4)) sNil))) (sRet (eVar 4))))))
def f_worst : Fn := fnD 6 b_worst
def c_is_word_1 : M D := (eOp inD (eVar 2) (eC (.str "abc")))
def s_is_word_1 : DL.Env → Fl := (sRet (eAnd (eUn (isiD "str") (eVar 0)) (eAnd (eOp leD (eUn lenD (eVar 0)) (eVar 1)) (eCall allD (aCons (eFrz (oLc [2] (iStr (eVar 0)) (gNm 2) bYes c_is_word_1)) aNil)))))
def b_is_word : DL.Env → Fl := s_is_word_1
def f_is_word : Fn := fnD 3 b_is_word
def t_Machine_reached_1 : M Bool := (asB (eOp neD (eVar 3) (eC (.int (-1)))))
def s_Machine_reached_1 : DL.Env → Fl := (sIf (asB (eOp ninD (eVar 2) (eOp ixD (eFldV "Machine" "letters" 0) (eVar 1)))) (sRet (eLst aNil)) sNil)
def s_Machine_reached_2 : DL.Env → Fl := (sRet (eFrz (oLc [3] (iLst (eOp ixD (eFldV "Machine" "follow" 0) (eVar 1))) (gNm 3) t_Machine_reached_1 (eVar 3))))
def b_Machine_reached : DL.Env → Fl := (sSeq s_Machine_reached_1 s_Machine_reached_2)
def f_Machine_reached : Fn := fnD 4 b_Machine_reached
def c_advanced_1 : M D := (eC (.int 0))
def l_advanced_1 : DL.Env → Fl := (sSetI 3 (eVar 6) (eOp addD (eIxV 3 (eVar 6)) (eVar 5)))
def l_advanced_2 : DL.Env → Fl := (sFor (iLst (eMeD "Machine" "reached" 0 3 f_Machine_reached (eVar 0) (xDat (eVar 4) (xDat (eVar 2) xNil)))) (gNm 6) l_advanced_1)
def s_advanced_1 : DL.Env → Fl := (sOwn (oLc [5] (iLst (eVar 1)) (gNm 5) bYes c_advanced_1) 3)
def s_advanced_2 : DL.Env → Fl := (sFor (iEnu (aCons (eVar 1) aNil)) (gTu 2 (gCo (gNm 4) (gCo (gNm 5) gNo))) l_advanced_2)
def s_advanced_3 : DL.Env → Fl := (sRet (eVar 3))
def b_advanced : DL.Env → Fl := (sSeq s_advanced_1 (sSeq s_advanced_2 s_advanced_3))
def f_advanced : Fn := fnD 7 b_advanced
def c_path_counts_1 : M D := (eCnt (eFldV "Machine" "start" 0) (eVar 4))
def l_path_counts_1 : DL.Env → Fl := (sAsg (eFn 0 3 f_advanced (xDat (eVar 0) (xDat (eVar 2) (xDat (eVar 3) xNil)))) (gNm 2))
def s_path_counts_1 : DL.Env → Fl := (sOwn (oLc [4] (iRg1 (aCons (eUn lenD (eFldV "Machine" "letters" 0)) aNil)) (gNm 4) bYes c_path_counts_1) 2)
def s_path_counts_2 : DL.Env → Fl := (sFor (iStr (eVar 1)) (gNm 3) l_path_counts_1)
def s_path_counts_3 : DL.Env → Fl := (sRet (eVar 2))
def b_path_counts : DL.Env → Fl := (sSeq s_path_counts_1 (sSeq s_path_counts_2 s_path_counts_3))
def f_path_counts : Fn := fnD 5 b_path_counts
def s_paths_to_1 : DL.Env → Fl := (sExp (eFn 0 1 f_check_pattern (xDat (eVar 0) xNil)))
def s_paths_to_2 : DL.Env → Fl := (sIf (bNot (asB (eFn 0 2 f_is_word (xDat (eVar 1) (xDat (eC (.int 60)) xNil))))) (sRaise "BadWord") sNil)
def s_paths_to_3 : DL.Env → Fl := (sRet (eCall tupleD (aCons (eFn 0 2 f_path_counts (xDat (eFrz (oMake "Machine" 2 f_Machine_init (xDat (eVar 0) xNil))) (xDat (eVar 1) xNil))) aNil)))
def b_paths_to : DL.Env → Fl := (sSeq s_paths_to_1 (sSeq s_paths_to_2 s_paths_to_3))
def f_paths_to : Fn := fnD 2 b_paths_to
def s_check_position_1 : DL.Env → Fl := (sIf (bNot (asB (eFn 0 3 f_is_integer (xDat (eVar 1) (xDat (eC (.int 0)) (xDat (eOp subD (eUn lenD (eFn 0 1 (f_all_sets 20) (xDat (eVar 0) xNil))) (eC (.int 1))) xNil)))))) (sRaise "BadPosition") sNil)
def b_check_position : DL.Env → Fl := s_check_position_1
def f_check_position : Fn := fnD 2 b_check_position
def s_follow_list_1 : DL.Env → Fl := (sExp (eFn 0 1 f_check_pattern (xDat (eVar 0) xNil)))
def s_follow_list_2 : DL.Env → Fl := (sExp (eFn 0 2 f_check_position (xDat (eVar 0) (xDat (eVar 1) xNil))))
def s_follow_list_3 : DL.Env → Fl := (sRet (eOp ixD (eUn (fldD "Machine" "follow") (eFrz (oMake "Machine" 2 f_Machine_init (xDat (eVar 0) xNil)))) (eVar 1)))
def b_follow_list : DL.Env → Fl := (sSeq s_follow_list_1 (sSeq s_follow_list_2 s_follow_list_3))
def f_follow_list : Fn := fnD 2 b_follow_list
end LW
set_option Elab.async false
set_option linter.all false
set_option maxRecDepth 100000
set_option maxHeartbeats 1000000
namespace LW
open PySem DL
inductive Pat where
  | set (s : Str) | seq (ps : List Pat) | alt (ps : List Pat) | opt (p : Pat) | star (p : Pat)
mutual
def Pat.null : Pat → Bool
  | .set _ => false
  | .seq ps => nullAll ps
  | .alt ps => nullAny ps
  | .opt _ => true
  | .star _ => true
def nullAll : List Pat → Bool
  | [] => true
  | p :: r => p.null && nullAll r
def nullAny : List Pat → Bool
  | [] => false
  | p :: r => p.null || nullAny r
end
mutual
def Pat.sets : Pat → List Str
  | .set s => [s]
  | .seq ps => setsAll ps
  | .alt ps => setsAll ps
  | .opt p => p.sets
  | .star p => p.sets
def setsAll : List Pat → List Str
  | [] => []
  | p :: r => p.sets ++ setsAll r
end
mutual
def Pat.size : Pat → Nat
  | .set _ => 1
  | .seq ps => 1 + sizeAll ps
  | .alt ps => 1 + sizeAll ps
  | .opt p => 1 + p.size
  | .star p => 1 + p.size
def sizeAll : List Pat → Nat
  | [] => 0
  | p :: r => p.size + sizeAll r
end
mutual
def Pat.stars : Pat → Bool
  | .set _ => true
  | .seq ps => starsAll ps
  | .alt ps => starsAll ps
  | .opt p => p.stars
  | .star p => !p.null && p.stars
def starsAll : List Pat → Bool
  | [] => true
  | p :: r => p.stars && starsAll r
end
def lets : List Str := ["a", "b", "c", "ab", "ac", "bc", "abc"]
mutual
def Pat.wf : Pat → Bool
  | .set s => lets.elem s
  | .seq ps => decide (2 ≤ ps.length) && decide (ps.length ≤ 4) && wfAll ps
  | .alt ps => decide (2 ≤ ps.length) && decide (ps.length ≤ 4) && wfAll ps
  | .opt p => p.wf
  | .star p => p.wf
def wfAll : List Pat → Bool
  | [] => true
  | p :: r => p.wf && wfAll r
end
@[simp] theorem k_set_set : eqD (.str "set") (.str "set") = some (.bl true) := by kernel_rfl
@[simp] theorem k_seq_set : eqD (.str "seq") (.str "set") = some (.bl false) := by kernel_rfl
@[simp] theorem k_alt_set : eqD (.str "alt") (.str "set") = some (.bl false) := by kernel_rfl
@[simp] theorem k_opt_set : eqD (.str "opt") (.str "set") = some (.bl false) := by kernel_rfl
@[simp] theorem k_star_set : eqD (.str "star") (.str "set") = some (.bl false) := by kernel_rfl
@[simp] theorem k_set_seq : eqD (.str "set") (.str "seq") = some (.bl false) := by kernel_rfl
@[simp] theorem k_seq_seq : eqD (.str "seq") (.str "seq") = some (.bl true) := by kernel_rfl
@[simp] theorem k_alt_seq : eqD (.str "alt") (.str "seq") = some (.bl false) := by kernel_rfl
@[simp] theorem k_opt_seq : eqD (.str "opt") (.str "seq") = some (.bl false) := by kernel_rfl
@[simp] theorem k_star_seq : eqD (.str "star") (.str "seq") = some (.bl false) := by kernel_rfl
@[simp] theorem k_set_alt : eqD (.str "set") (.str "alt") = some (.bl false) := by kernel_rfl
@[simp] theorem k_seq_alt : eqD (.str "seq") (.str "alt") = some (.bl false) := by kernel_rfl
@[simp] theorem k_alt_alt : eqD (.str "alt") (.str "alt") = some (.bl true) := by kernel_rfl
@[simp] theorem k_opt_alt : eqD (.str "opt") (.str "alt") = some (.bl false) := by kernel_rfl
@[simp] theorem k_star_alt : eqD (.str "star") (.str "alt") = some (.bl false) := by kernel_rfl
@[simp] theorem k_set_opt : eqD (.str "set") (.str "opt") = some (.bl false) := by kernel_rfl
@[simp] theorem k_seq_opt : eqD (.str "seq") (.str "opt") = some (.bl false) := by kernel_rfl
@[simp] theorem k_alt_opt : eqD (.str "alt") (.str "opt") = some (.bl false) := by kernel_rfl
@[simp] theorem k_opt_opt : eqD (.str "opt") (.str "opt") = some (.bl true) := by kernel_rfl
@[simp] theorem k_star_opt : eqD (.str "star") (.str "opt") = some (.bl false) := by kernel_rfl
@[simp] theorem k_set_star : eqD (.str "set") (.str "star") = some (.bl false) := by kernel_rfl
@[simp] theorem k_seq_star : eqD (.str "seq") (.str "star") = some (.bl false) := by kernel_rfl
@[simp] theorem k_alt_star : eqD (.str "alt") (.str "star") = some (.bl false) := by kernel_rfl
@[simp] theorem k_opt_star : eqD (.str "opt") (.str "star") = some (.bl false) := by kernel_rfl
@[simp] theorem k_star_star : eqD (.str "star") (.str "star") = some (.bl true) := by kernel_rfl
@[simp] theorem i_seq1 : inD (.str "seq") (.tup [.str "seq", .str "alt"]) = some (.bl true) := by rfl
@[simp] theorem i_alt1 : inD (.str "alt") (.tup [.str "seq", .str "alt"]) = some (.bl true) := by rfl
@[simp] theorem i_set1 : inD (.str "set") (.tup [.str "seq", .str "alt"]) = some (.bl false) := by rfl
@[simp] theorem i_opt1 : inD (.str "opt") (.tup [.str "seq", .str "alt"]) = some (.bl false) := by rfl
@[simp] theorem i_star1 : inD (.str "star") (.tup [.str "seq", .str "alt"]) = some (.bl false) := by rfl
@[simp] theorem i_seq2 : inD (.str "seq") (.tup [.str "opt", .str "star"]) = some (.bl false) := by rfl
@[simp] theorem i_alt2 : inD (.str "alt") (.tup [.str "opt", .str "star"]) = some (.bl false) := by rfl
@[simp] theorem i_set2 : inD (.str "set") (.tup [.str "opt", .str "star"]) = some (.bl false) := by rfl
@[simp] theorem i_opt2 : inD (.str "opt") (.tup [.str "opt", .str "star"]) = some (.bl true) := by rfl
@[simp] theorem i_star2 : inD (.str "star") (.tup [.str "opt", .str "star"]) = some (.bl true) := by rfl
@[simp] theorem at0 (a b : D) : L2.atI [a, b] 0 = some a := by rfl
@[simp] theorem at1 (a b : D) : L2.atI [a, b] 1 = some b := by rfl
theorem sizeLine_ge : 1000000 ≤ sizeLine := by decide +kernel
@[simp] theorem addD_tup (xs ys : List D) : addD (.tup xs) (.tup ys) = if xs.length + ys.length ≤ sizeLine then some (.tup (xs ++ ys)) else none := rfl
@[simp] theorem addD_lst (xs ys : List D) : addD (.lst xs) (.lst ys) = if xs.length + ys.length ≤ sizeLine then some (.lst (xs ++ ys)) else none := rfl
@[simp] theorem chain_ok (f g : D → D → Option D) (a b c : M D) (env : DL.Env) : eChain f g a b c env = (a env).bind fun x e1 => (b e1).bind fun y e2 => (lift (f x y) e2).bind fun z e3 => (match z with | .bl true => (c e3).bind fun w e4 => lift (g y w) e4 | .bl false => .ok (.bl false) e3 | _ => .bad) := by
  rfl
@[simp] theorem isi_tup (ds : List D) : isiD "tuple" (.tup ds) = some (.bl true) := rfl
@[simp] theorem isi_strs (s : Str) : isiD "str" (.str s) = some (.bl true) := rfl
end LW
set_option Elab.async false
set_option linter.all false
set_option maxRecDepth 100000
set_option maxHeartbeats 1000000
namespace LW
open PySem DL
theorem mulOk_r {i j : Int} (h : small64 j = true) : mulOk i j = true := by unfold mulOk; rw [h]; simp
theorem log_400 {i : Nat} (h : i < 2 ^ 200) : i.log2 < 201 := by
  by_cases z : i = 0
  · rw [z]; decide
  · have := (Nat.log2_lt z).mpr h
    omega
theorem mulOk_b {i j : Int} (h : i.natAbs < 2 ^ 200) (h2 : j.natAbs < 2 ^ 200) : mulOk i j = true := by
  unfold mulOk
  have a := log_400 h
  have b := log_400 h2
  have c : decide (i.natAbs.log2 + j.natAbs.log2 < 1000000) = true := decide_eq_true (by omega)
  rw [c]
  simp
def drawnI (c k : Int) : Int :=
  let m1 := (c * 6364136223846793005 + (k + 1) * 1442695040888963407) % 340282366920938463463374607431768211507
  let m2 := m1 * m1 % 340282366920938463463374607431768211297
  let m3 := (m2 % 18446744073709551557 + 1) * (m2 / 18446744073709551557 + 1) * m2
  m3 % 340282366920938463463374607431768211507
theorem drawn_ok (c k : Int) : f_law_drawn [.dat (.int c), .dat (.int k)] = .rt (.int (drawnI c k)) [.dat (.int c), .dat (.int k)] := by
  have a1 : mulOk c 6364136223846793005 = true := mulOk_r (by decide)
  have a2 : mulOk (k + 1) 1442695040888963407 = true := mulOk_r (by decide)
  have p1 := Int.emod_nonneg (c * 6364136223846793005 + (k + 1) * 1442695040888963407) (b := 340282366920938463463374607431768211507) (by decide)
  have p2 := Int.emod_lt_of_pos (c * 6364136223846793005 + (k + 1) * 1442695040888963407) (b := 340282366920938463463374607431768211507) (by decide)
  rw [f_law_drawn, v_fnD, drawnI]
  generalize e1 : (c * 6364136223846793005 + (k + 1) * 1442695040888963407) % 340282366920938463463374607431768211507 = m1 at p1 p2
  have a3 : mulOk m1 m1 = true := mulOk_b (by omega) (by omega)
  have q1 := Int.emod_nonneg (m1 * m1) (b := 340282366920938463463374607431768211297) (by decide)
  have q2 := Int.emod_lt_of_pos (m1 * m1) (b := 340282366920938463463374607431768211297) (by decide)
  generalize e2 : m1 * m1 % 340282366920938463463374607431768211297 = m2 at q1 q2
  have b1 : (m2 % 18446744073709551557 + 1).natAbs < 2 ^ 100 := by omega
  have b2 : (m2 / 18446744073709551557 + 1).natAbs < 2 ^ 100 := by omega
  have a4 : mulOk (m2 % 18446744073709551557 + 1) (m2 / 18446744073709551557 + 1) = true := mulOk_b (by omega) (by omega)
  have b3 : ((m2 % 18446744073709551557 + 1) * (m2 / 18446744073709551557 + 1)).natAbs < 2 ^ 200 := by
    rw [Int.natAbs_mul]
    have := Nat.mul_lt_mul'' b1 b2
    omega
  have a5 : mulOk ((m2 % 18446744073709551557 + 1) * (m2 / 18446744073709551557 + 1)) m2 = true := mulOk_b b3 (by omega)
  have l1 : Nat.log2 18446744073709551557 < 9000 := by decide +kernel
  simp [b_law_drawn, v_sSeq, v_for_nil, v_for_cons, v_sFor, v_sAsg, v_gNm, v_gTu, v_gNo, v_gCo, v_sRet, v_sExp, v_sIf, v_sNil, v_sRaise, v_sBrk, v_fnD, v_eC, v_eVar, v_wVar, v_eOp, v_eUn, v_asB, v_bAnd, v_bOr, v_bNot, v_eIf, v_eAnd, v_eOr, v_eNot, v_bYes, v_aNil, v_aCons, v_eTup, v_eLst, v_oLst, v_eCall, v_eFrz, v_sOwn, v_iLst, v_iTpl, v_xNil, v_xDat, v_runX, v_eFn, v_oLc, slotsX, callR, endF, backA, backX, wipeE, back1, a1, a2, e1, a3, e2, a4, a5, l1]
abbrev dc (x : Int × Int) : Own := .ol [.int x.1, .int x.2]
theorem pow18 : powD (.int 10) (.int 18) = some (.int 1000000000000000000) := by rfl
theorem roll_ok (x : Int × Int) (m : Int) (hm : 0 < m) (hm2 : m < 1000) : ∃ (x' : Int × Int) (v : Int), f_law_roll [.lent (dc x), .dat (.int m)] = .rt (.int v) [.lent (dc x'), .dat (.int m)] ∧ 0 ≤ v ∧ v < m := by
  obtain ⟨c, n⟩ := x
  have hl : m.natAbs.log2 < 9000 := by
    have := log_400 (i := m.natAbs) (by omega)
    omega
  by_cases h : 1000000000000000000 ≤ c
  · refine ⟨(c / m, n), c % m, ?_, Int.emod_nonneg _ (by omega), Int.emod_lt_of_pos _ hm⟩
    rw [f_law_roll, v_fnD]
    simp [b_law_roll, v_sSeq, v_for_nil, v_for_cons, v_sFor, v_sAsg, v_gNm, v_gTu, v_gNo, v_gCo, v_sRet, v_sExp, v_sIf, v_sNil, v_sRaise, v_sBrk, v_fnD, v_eC, v_eVar, v_wVar, v_eOp, v_eUn, v_asB, v_bAnd, v_bOr, v_bNot, v_eIf, v_eAnd, v_eOr, v_eNot, v_bYes, v_aNil, v_aCons, v_eTup, v_eLst, v_oLst, v_eCall, v_eFrz, v_sOwn, v_iLst, v_iTpl, v_xNil, v_xDat, v_runX, v_eFn, v_oLc, slotsX, callR, endF, backA, backX, wipeE, back1, eIxV, sSetI, modS, setO, isOl, Slot.ow, Slot.re, ixV, L2.atI, L2.ixN, pow18, h, hm, hl]
  · refine ⟨(c, n + 1), drawnI c (n + 1) / 8 % m, ?_, Int.emod_nonneg _ (by omega), Int.emod_lt_of_pos _ hm⟩
    have l8 : Nat.log2 8 < 9000 := by decide
    rw [f_law_roll, v_fnD]
    simp [b_law_roll, v_sSeq, v_for_nil, v_for_cons, v_sFor, v_sAsg, v_gNm, v_gTu, v_gNo, v_gCo, v_sRet, v_sExp, v_sIf, v_sNil, v_sRaise, v_sBrk, v_fnD, v_eC, v_eVar, v_wVar, v_eOp, v_eUn, v_asB, v_bAnd, v_bOr, v_bNot, v_eIf, v_eAnd, v_eOr, v_eNot, v_bYes, v_aNil, v_aCons, v_eTup, v_eLst, v_oLst, v_eCall, v_eFrz, v_sOwn, v_iLst, v_iTpl, v_xNil, v_xDat, v_runX, v_eFn, v_oLc, slotsX, callR, endF, backA, backX, wipeE, back1, eIxV, sSetI, modS, setO, isOl, Slot.ow, Slot.re, ixV, L2.atI, L2.ixN, pow18, h, hm, hl, drawn_ok, l8]
theorem canLay_ints : ∀ ns : List Int, PyData.canLayAll0 (ns.map PyData.int) = true
  | [] => by simp [PyData.canLayAll0]
  | n :: r => by rw [List.map_cons, PyData.canLayAll0, canLay_ints r]; simp [PyData.canLay0]
theorem depth_ints : ∀ ns : List Int, PyData.depthAll (ns.map PyData.int) = 0
  | [] => by simp [PyData.depthAll]
  | n :: r => by rw [List.map_cons, PyData.depthAll, depth_ints r]; simp [PyData.depth]
@[simp] theorem eqD_scr (ns : List Int) : eqD (.scr ns) (.lst []) = some (.bl ns.isEmpty) := by
  have h1 : (D.scr ns).sh = true := by
    unfold D.sh SeqAt.shaped
    rw [D.toP]
    simp [PyData.canLay0, canLay_ints, PyData.depth, depth_ints]
  have h2 : (D.lst []).sh = true := by kernel_rfl
  unfold eqD
  rw [h1, h2]
  show some (D.bl (D.eqv _ _)) = _
  unfold D.eqv
  rw [D.toP, D.toP, toPs]
  cases ns <;> simp [PyData.eqv, PyData.eqvAll]
@[simp] theorem ixD_scr (ns : List Int) (i : Int) : ixD (.scr ns) (.int i) = (L2.atI ns i).map D.int := rfl
@[simp] theorem lenD_scr (ns : List Int) : lenD (.scr ns) = some (.int ns.length) := rfl
theorem mul_7919 (k : Int) : mulOk k 7919 = true := mulOk_r (by decide)
theorem mul_104729 (k : Int) : mulOk k 104729 = true := mulOk_r (by decide)
theorem cell_at (ns : List Int) (k : Nat) (hk : k % ns.length < ns.length) : L2.atI ns ((k : Int) % (ns.length : Int)) = some (ns.getD (k % ns.length) 0) := by
  have e : (k : Int) % (ns.length : Int) = ((k % ns.length : Nat) : Int) := by omega
  rw [e]
  generalize k % ns.length = j at hk
  unfold L2.atI L2.ixN
  rw [if_pos (by omega), if_pos (by omega)]
  simp [List.getElem?_eq_getElem hk]
theorem log_63 (n : Nat) (h : n ≤ 63) : n.log2 < 9000 := by
  have := log_400 (i := n) (by omega)
  omega
theorem cell_nil (k : Int) : f_law_cell [.dat (.scr []), .dat (.int k)] = .rt (.int (k * 7919)) [.dat (.scr []), .dat (.int k)] := by
  rw [f_law_cell, v_fnD]
  simp [b_law_cell, v_sSeq, v_for_nil, v_for_cons, v_sFor, v_sAsg, v_gNm, v_gTu, v_gNo, v_gCo, v_sRet, v_sExp, v_sIf, v_sNil, v_sRaise, v_sBrk, v_fnD, v_eC, v_eVar, v_wVar, v_eOp, v_eUn, v_asB, v_bAnd, v_bOr, v_bNot, v_eIf, v_eAnd, v_eOr, v_eNot, v_bYes, v_aNil, v_aCons, v_eTup, v_eLst, v_oLst, v_eCall, v_eFrz, v_sOwn, v_iLst, v_iTpl, v_xNil, v_xDat, v_runX, v_eFn, v_oLc, slotsX, callR, endF, backA, backX, wipeE, back1, mul_7919]
theorem cell_cons (ns : List Int) (k n w : Int) (hn : (ns.length : Int) = n) (hne : ns.isEmpty = false) (hp : 0 < n) (hl : n.natAbs.log2 < 9000) (hx : L2.atI ns (k % n) = some w) : f_law_cell [.dat (.scr ns), .dat (.int k)] = .rt (.int (w + k / n * 104729)) [.dat (.scr ns), .dat (.int k)] := by
  rw [f_law_cell, v_fnD]
  simp [b_law_cell, v_sSeq, v_for_nil, v_for_cons, v_sFor, v_sAsg, v_gNm, v_gTu, v_gNo, v_gCo, v_sRet, v_sExp, v_sIf, v_sNil, v_sRaise, v_sBrk, v_fnD, v_eC, v_eVar, v_wVar, v_eOp, v_eUn, v_asB, v_bAnd, v_bOr, v_bNot, v_eIf, v_eAnd, v_eOr, v_eNot, v_bYes, v_aNil, v_aCons, v_eTup, v_eLst, v_oLst, v_eCall, v_eFrz, v_sOwn, v_iLst, v_iTpl, v_xNil, v_xDat, v_runX, v_eFn, v_oLc, slotsX, callR, endF, backA, backX, wipeE, back1, hne, hn, hp, hl, hx, mul_104729]
theorem cell_pure (ns : List Int) (h : ns.length ≤ 63) (k : Nat) : f_law_cell [.dat (.scr ns), .dat (.int k)] = .rt (.int (czS ns k)) [.dat (.scr ns), .dat (.int k)] := by
  by_cases h0 : ns = []
  · subst h0
    exact cell_nil k
  · have hne : ns.isEmpty = false := by cases ns with
      | nil => exact absurd rfl h0
      | cons n r => rfl
    have hp0 : 0 < ns.length := List.length_pos_iff.mpr h0
    have e : czS ns k = ns.getD (k % ns.length) 0 + (k : Int) / (ns.length : Int) * 104729 := by
      unfold czS
      rw [if_neg h0, Int.natCast_ediv]
    rw [e]
    exact cell_cons ns k ns.length _ rfl hne (by omega) (log_63 _ h) (cell_at ns k (Nat.mod_lt _ hp0))
theorem rounds_mx (hi : Int) (h1 : 1 ≤ hi) (h2 : hi ≤ 100) (ns : List Int) (h : ns.length ≤ 63) : mx_rounds (envR ns hi 1) = .ok (rangeD 0 (cntS ns hi)) (envR ns hi 1) := by
  simp [mx_rounds, iRg1, v_sSeq, v_for_nil, v_for_cons, v_sFor, v_sAsg, v_gNm, v_gTu, v_gNo, v_gCo, v_sRet, v_sExp, v_sIf, v_sNil, v_sRaise, v_sBrk, v_fnD, v_eC, v_eVar, v_wVar, v_eOp, v_eUn, v_asB, v_bAnd, v_bOr, v_bNot, v_eIf, v_eAnd, v_eOr, v_eNot, v_bYes, v_aNil, v_aCons, v_eTup, v_eLst, v_oLst, v_eCall, v_eFrz, v_sOwn, v_iLst, v_iTpl, v_xNil, v_xDat, v_runX, v_eFn, v_oLc, slotsX, callR, endF, backA, backX, wipeE, back1, envR, parR, maxD, minD, inR, cntS]
  split <;> split <;> simp <;> omega
theorem rounds_cnt (hi : Int) (h2 : hi ≤ 100) (ns : List Int) (h : ns.length ≤ 63) : cntS ns hi ≤ 1000 := by
  unfold cntS
  split <;> split <;> omega
theorem rounds_mx4 (ns : List Int) (h : ns.length ≤ 63) : mx_rounds (envR ns 4 1) = .ok (rangeD 0 (cntS ns 4)) (envR ns 4 1) := rounds_mx 4 (by decide) (by decide) ns h
theorem rounds_cnt4 (ns : List Int) (h : ns.length ≤ 63) : cntS ns 4 ≤ 1000 := rounds_cnt 4 (by decide) ns h
end LW
set_option Elab.async false
set_option linter.all false
set_option maxRecDepth 100000
set_option maxHeartbeats 1000000
namespace LW
open PySem DL
structure Lg where
  la : Nat
  lb : Nat
  ma : Nat
  mb : Nat
  fa : Nat
  fb : Nat
def lgSet : Lg := ⟨1, 0, 1, 1, 0, 1⟩
def lgOpt (q : Lg) : Lg := ⟨q.la, q.lb + 1, q.ma + q.la, q.mb + q.lb + 1, q.fa, q.fb⟩
def lgStar (q : Lg) : Lg := ⟨q.la, 1, q.ma + q.mb * q.la + q.la, q.mb + 1, q.fa + q.fb * q.la, q.fb⟩
def lgSeq0 : Lg := ⟨0, 1, 0, 1, 0, 0⟩
def lgSeq (p r : Lg) : Lg := ⟨p.la + p.lb * r.la, p.lb * r.lb, r.ma + p.ma + p.mb * r.la + (p.la + p.lb * r.la), r.mb + p.mb * r.lb + p.lb * r.lb, max r.fa (p.fa + p.fb * r.la), max r.fb (p.fb * r.lb)⟩
def lgAlt0 : Lg := ⟨0, 0, 0, 0, 0, 0⟩
def lgAlt (p r : Lg) : Lg := ⟨p.la + r.la, p.lb + r.lb, p.ma + r.ma + (p.la + r.la), p.mb + r.mb + (p.lb + r.lb), max p.fa r.fa, max p.fb r.fb⟩
mutual
def Pat.lg : Pat → Lg
  | .set _ => lgSet
  | .seq ps => lgSeqs ps
  | .alt ps => lgAlts ps
  | .opt p => lgOpt p.lg
  | .star p => lgStar p.lg
def lgSeqs : List Pat → Lg
  | [] => lgSeq0
  | p :: r => lgSeq p.lg (lgSeqs r)
def lgAlts : List Pat → Lg
  | [] => lgAlt0
  | p :: r => lgAlt p.lg (lgAlts r)
end
structure Lg.le (p q : Lg) : Prop where
  la : p.la ≤ q.la
  lb : p.lb ≤ q.lb
  ma : p.ma ≤ q.ma
  mb : p.mb ≤ q.mb
  fa : p.fa ≤ q.fa
  fb : p.fb ≤ q.fb
theorem Lg.le.refl (p : Lg) : p.le p := ⟨Nat.le_refl _, Nat.le_refl _, Nat.le_refl _, Nat.le_refl _, Nat.le_refl _, Nat.le_refl _⟩
theorem Lg.le.trans {p q r : Lg} (a : p.le q) (b : q.le r) : p.le r := ⟨Nat.le_trans a.la b.la, Nat.le_trans a.lb b.lb, Nat.le_trans a.ma b.ma, Nat.le_trans a.mb b.mb, Nat.le_trans a.fa b.fa, Nat.le_trans a.fb b.fb⟩
def Lg.max (p q : Lg) : Lg := ⟨Nat.max p.la q.la, Nat.max p.lb q.lb, Nat.max p.ma q.ma, Nat.max p.mb q.mb, Nat.max p.fa q.fa, Nat.max p.fb q.fb⟩
end LW
set_option Elab.async false
set_option linter.all false
set_option maxRecDepth 100000
set_option maxHeartbeats 1000000
namespace LW
open PySem DL
structure B7 where
  la : Nat
  lb : Nat
  ma : Nat
  mb : Nat
  fa : Nat
  fb : Nat
  s : Nat
structure Bd (p : Lg) (q : B7) : Prop where
  la : p.la ≤ q.la
  lb : p.lb ≤ q.lb
  ma : p.ma ≤ q.ma
  mb : p.mb ≤ q.mb
  fa : p.fa ≤ q.fa
  fb : p.fb ≤ q.fb
  s : p.la + p.lb ≤ q.s
def B7.max (p q : B7) : B7 := ⟨Nat.max p.la q.la, Nat.max p.lb q.lb, Nat.max p.ma q.ma, Nat.max p.mb q.mb, Nat.max p.fa q.fa, Nat.max p.fb q.fb, Nat.max p.s q.s⟩
theorem Bd.l {p : Lg} {a b : B7} (h : Bd p a) : Bd p (a.max b) := ⟨Nat.le_trans h.la (Nat.le_max_left ..), Nat.le_trans h.lb (Nat.le_max_left ..), Nat.le_trans h.ma (Nat.le_max_left ..), Nat.le_trans h.mb (Nat.le_max_left ..), Nat.le_trans h.fa (Nat.le_max_left ..), Nat.le_trans h.fb (Nat.le_max_left ..), Nat.le_trans h.s (Nat.le_max_left ..)⟩
theorem Bd.r {p : Lg} {a b : B7} (h : Bd p b) : Bd p (a.max b) := ⟨Nat.le_trans h.la (Nat.le_max_right ..), Nat.le_trans h.lb (Nat.le_max_right ..), Nat.le_trans h.ma (Nat.le_max_right ..), Nat.le_trans h.mb (Nat.le_max_right ..), Nat.le_trans h.fa (Nat.le_max_right ..), Nat.le_trans h.fb (Nat.le_max_right ..), Nat.le_trans h.s (Nat.le_max_right ..)⟩
end LW
set_option Elab.async false
set_option linter.all false
set_option maxRecDepth 100000
set_option maxHeartbeats 1000000
namespace LW
open PySem DL
@[simp] theorem divD_lit (i j : Int) (h : 0 < j) (h2 : j < 1000) : divD (.int i) (.int j) = some (.int (i / j)) := by
  have hl : j.natAbs.log2 < 9000 := by
    have := log_400 (i := j.natAbs) (by omega)
    omega
  rw [divD_int, if_pos ⟨h, hl⟩]
end LW
set_option Elab.async false
set_option linter.all false
set_option maxRecDepth 100000
set_option maxHeartbeats 1000000
namespace LW
open PySem DL
structure Known (p : Pat) : Prop where
  wf : p.wf = true
  st : p.stars = true
  sz : p.size ≤ 14
  se : p.sets.length ≤ 6
  lg : p.lg.ma + p.lg.mb ≤ 100000
  fl : p.lg.fa + p.lg.fb ≤ 24
  sl : p.lg.la ≤ 21 ∧ p.lg.lb ≤ 8 ∧ p.lg.fa ≤ 16 ∧ p.lg.fb ≤ 4
  s7 : p.lg.la + p.lg.lb ≤ 15 ∧ p.lg.fa ≤ 10 ∧ p.lg.fb ≤ 4 ∧ p.lg.ma ≤ 200 ∧ p.lg.mb ≤ 60
theorem rounds_true {body : DL.Env → Fl} {n id : Nat} {cz : Nat → Int} (h : ∀ c : Int, ∃ e, body ((List.replicate n .emp).set id (.own (.ol [.int c, .int 0]))) = .nx e ∧ e.length = n) : ∀ r k : Nat, roundsD body n id cz r k = .nx (List.replicate n .emp)
  | 0, _ => rfl
  | r + 1, k => by
    obtain ⟨e, h1, h2⟩ := h (cz k)
    rw [roundsD, h1]
    simp only [h2, if_true]
    exact rounds_true h r (k + 1)
theorem sRounds_true {body : DL.Env → Fl} {hi : Int} {n id : Nat} {ns : List Int} (hl : ns.length ≤ 63) (hid : id < n + 1) (h : ∀ c : Int, ∃ e, body ((List.replicate (n + 1) .emp).set id (.own (.ol [.int c, .int 0]))) = .nx e ∧ e.length = n + 1) :
    sRounds 0 id hi czS cntS body (.dat (.scr ns) :: List.replicate n .emp) = .nx (List.replicate (n + 1) .emp) := by
  unfold sRounds
  simp only [List.getElem?_cons_zero, List.length_cons, List.length_replicate]
  rw [if_pos ⟨hl, hid⟩]
  exact rounds_true h _ _
theorem s7 : 7 ≤ sizeLine := Nat.le_trans (by decide) sizeLine_ge
end LW
set_option Elab.async false
set_option linter.all false
set_option maxRecDepth 100000
set_option maxHeartbeats 1000000
namespace LW
open PySem DL
mutual
def Pat.ch : Pat → Int → List Int → List Int
  | .set _, a, _ => [a]
  | .seq ps, a, r => chSeq ps a r
  | .alt ps, a, r => chAlt ps a r
  | .opt p, a, r => p.ch a r ++ r
  | .star p, a, r => p.ch a [] ++ r
def chSeq : List Pat → Int → List Int → List Int
  | [], _, r => r
  | p :: ps, a, r => p.ch a (chSeq ps (a + p.sets.length) r)
def chAlt : List Pat → Int → List Int → List Int
  | [], _, _ => []
  | p :: ps, a, r => p.ch a r ++ chAlt ps (a + p.sets.length) r
end
mutual
def Pat.fo : Pat → Int → List Int → List (List Int)
  | .set _, _, r => [r]
  | .seq ps, a, r => foSeq ps a r
  | .alt ps, a, r => foAlt ps a r
  | .opt p, a, r => p.fo a r
  | .star p, a, r => p.fo a (p.ch a [] ++ r)
def foSeq : List Pat → Int → List Int → List (List Int)
  | [], _, _ => []
  | p :: ps, a, r => p.fo a (chSeq ps (a + p.sets.length) r) ++ foSeq ps (a + p.sets.length) r
def foAlt : List Pat → Int → List Int → List (List Int)
  | [], _, _ => []
  | p :: ps, a, r => p.fo a r ++ foAlt ps (a + p.sets.length) r
end
def iL (r : List Int) : D := .lst (r.map .int)
@[simp] theorem revD_lst (ds : List D) : revD (.lst ds) = some (.lst ds.reverse) := rfl
abbrev mfs (L : D) (fl : List D) (S : D) : Own := .oi "Machine" [("letters", .d L), ("follow", .l fl), ("start", .d S)]
end LW
set_option Elab.async false
set_option linter.all false
set_option maxRecDepth 100000
set_option maxHeartbeats 1000000
namespace LW
open PySem DL
def Pat.start (p : Pat) : List Int := p.ch 0 [-1]
def Pat.follow (p : Pat) : List (List Int) := p.fo 0 [-1]
def Pat.fits (p : Pat) : Prop := p.lg.ma + p.lg.mb * 1 ≤ 1000000
abbrev mo (p : Pat) : Own := mfs (.tup (p.sets.map .str)) (p.follow.map iL) (iL p.start)
def occ (x y : Str) : Bool := !(Builtin.Str.occurrences y x 0 y.length 1).isEmpty
@[simp] theorem inD_str (x y : Str) : inD (.str x) (.str y) = some (.bl (occ x y)) := rfl
def sgn (t : Str) (i : Nat) : Str := ⟨#[t.cps.toList.getD i 0]⟩
def hit (ls : List Str) (t : Str) (i j : Nat) : Bool := occ (sgn t i) (ls.getD j "")
def tri (hits : Nat → Bool) (atEnd : Bool) (later : List (Bool × Int)) : List Int → Int → Bool × Int
  | [], tot => (false, tot)
  | c :: cs, tot => if c = -1 then (if atEnd then (true, tot) else tri hits atEnd later cs tot)
    else if !atEnd && hits c.toNat then (if (later.getD c.toNat (false, 0)).1 then (true, tot + 1 + (later.getD c.toNat (false, 0)).2) else tri hits atEnd later cs (tot + 1 + (later.getD c.toNat (false, 0)).2))
    else tri hits atEnd later cs (tot + 1)
@[simp] theorem lenD_str (t : Str) (h : t.length ≤ sizeLine) : lenD (.str t) = some (.int t.length) := by show (if _ then _ else _) = _; rw [if_pos h]
end LW
set_option Elab.async false
set_option linter.all false
set_option maxRecDepth 100000
set_option maxHeartbeats 1000000
namespace LW
open PySem DL
def rowsAt (p : Pat) (t : Str) (i : Nat) (later : List (Bool × Int)) : List (Bool × Int) := (p.follow ++ [p.start]).map fun cs => tri (hit p.sets t i) (decide (i = t.length)) later cs 0
def rr (p : Pat) (t : Str) : Nat → List (Bool × Int)
  | 0 => rowsAt p t t.length []
  | k + 1 => rowsAt p t (t.length - (k + 1)) (rr p t k)
def res (p : Pat) (t : Str) : Bool × Int := (rr p t t.length).getLastD (false, 0)
end LW
set_option Elab.async false
set_option linter.all false
set_option maxRecDepth 100000
set_option maxHeartbeats 1000000
namespace LW
open PySem DL
theorem Known.fits {p : Pat} (h : Known p) : p.fits := by
  have := h.lg
  unfold Pat.fits
  omega
structure Okp (p : Pat) : Prop where
  wf : p.wf = true
  st : p.stars = true
  sz : p.size ≤ 16
  se : p.sets.length ≤ 8
  fits : p.fits
theorem Known.ok {p : Pat} (h : Known p) : Okp p := ⟨h.wf, h.st, by have := h.sz; omega, by have := h.se; omega, h.fits⟩
end LW
set_option Elab.async false
set_option linter.all false
set_option maxRecDepth 100000
set_option maxHeartbeats 1000000
namespace LW
open PySem DL
structure Put (kvs kvs' : List (Int × D)) (a : Int) (new : List (List Int)) : Prop where
  len : kvs'.length = kvs.length + new.length
  out : ∀ k, (k < a ∨ a + new.length ≤ k) → valD kvs' k = valD kvs k
  at_ : ∀ (j : Nat) (r : List Int), new[j]? = some r → valD kvs' (a + j) = some (iL r)
theorem Put.nil (kvs : List (Int × D)) (a : Int) : Put kvs kvs a [] := ⟨by simp, fun _ _ => rfl, fun j r h => by simp at h⟩
end LW
set_option Elab.async false
set_option linter.all false
set_option maxRecDepth 100000
set_option maxHeartbeats 1000000
namespace LW
open PySem DL
def pos (cs : List Int) : List Int := cs.filter fun c => decide (0 ≤ c)
def Pat.let (p : Pat) (c : Int) : Str := p.sets.getD c.toNat ""
end LW
set_option Elab.async false
set_option linter.all false
set_option maxRecDepth 100000
set_option maxHeartbeats 1000000
set_option Elab.async false
set_option linter.all false
set_option maxRecDepth 100000
set_option maxHeartbeats 1000000
namespace LW
open PySem DL
section
variable {m m1 m2 m3 : M D} {env e e1 e2 : DL.Env} {a b c d : D} {t u : M Bool} {k j : Bool}
theorem op_ok {f : D → D → Option D} (h1 : m1 env = .ok a e1) (h2 : m2 e1 = .ok b e2) (h : f a b = some d) : eOp f m1 m2 env = .ok d e2 := by
  rw [v_eOp, h1, bind_ok, h2, bind_ok, h]
  rfl
variable {x y : DL.Env → Fl}
theorem seq_nx (h : x env = .nx e) : sSeq x y env = y e := by
  rw [v_sSeq, h, thn_nx]
end
structure Sh (d : D) (k : Nat) : Prop where
  lay : d.toP.canLay0 = true
  dep : d.toP.depth ≤ k
theorem Sh.int (i : Int) : Sh (.int i) 0 := ⟨by rw [D.toP]; simp [PyData.canLay0], by rw [D.toP]; simp [PyData.depth]⟩
theorem Sh.bl (i : Bool) : Sh (.bl i) 0 := ⟨by rw [D.toP]; simp [PyData.canLay0], by rw [D.toP]; simp [PyData.depth]⟩
theorem Sh.str {i : Str} (h : PyData.strOk i = true) : Sh (.str i) 0 := ⟨by rw [D.toP]; simp [PyData.canLay0, h], by rw [D.toP]; simp [PyData.depth]⟩
theorem Sh.non : Sh .non 0 := ⟨by rw [D.toP]; simp [PyData.canLay0], by rw [D.toP]; simp [PyData.depth]⟩
theorem lays {k : Nat} : ∀ {ds : List D}, (∀ d ∈ ds, Sh d k) → PyData.canLayAll0 (toPs ds) = true ∧ PyData.depthAll (toPs ds) ≤ k
  | [], _ => by simp [toPs, PyData.canLayAll0, PyData.depthAll]
  | d :: r, h => by
    have hd := h d List.mem_cons_self
    have hr := lays fun x hx => h x (List.mem_cons_of_mem _ hx)
    have h1 := hd.lay
    have h2 := hd.dep
    simp [toPs, PyData.canLayAll0, PyData.depthAll, h1, hr.1]
    omega
theorem Sh.tup {k : Nat} {ds : List D} (h : ∀ d ∈ ds, Sh d k) : Sh (.tup ds) (k + 1) := by
  obtain ⟨h1, h2⟩ := lays h
  exact ⟨by rw [D.toP]; simpa [PyData.canLay0] using h1, by rw [D.toP]; simp [PyData.depth]; omega⟩
end LW
set_option Elab.async false
set_option linter.all false
set_option maxRecDepth 100000
set_option maxHeartbeats 1000000
namespace LW
open PySem DL
theorem Sh.mono {d : D} {k j : Nat} (h : Sh d k) (hj : k ≤ j) : Sh d j := ⟨h.lay, Nat.le_trans h.dep hj⟩
theorem call2e' {φ : Fn} {m1 : M D} {o o' : Own} {a0 : Slot} {tl : DL.Env} {a d : D} (h1 : m1 (a0 :: .own o :: tl) = .ok a (a0 :: .own o :: tl)) (h : φ [.lent o, .dat a] = .rt d [.lent o', .dat a]) : eFn 1 2 φ (xOwn 1 (xDat m1 xNil)) (a0 :: .own o :: tl) = .ok d (a0 :: .own o' :: tl) := by
  simp [v_sSeq, v_for_nil, v_for_cons, v_sFor, v_sAsg, v_gNm, v_gTu, v_gNo, v_gCo, v_sRet, v_sExp, v_sIf, v_sNil, v_sRaise, v_sBrk, v_fnD, v_eC, v_eVar, v_wVar, v_eOp, v_eUn, v_asB, v_bAnd, v_bOr, v_bNot, v_eIf, v_eAnd, v_eOr, v_eNot, v_bYes, v_aNil, v_aCons, v_eTup, v_eLst, v_oLst, v_eCall, v_eFrz, v_sOwn, v_iLst, v_iTpl, v_xNil, v_xDat, v_runX, v_eFn, v_oLc, slotsX, callR, endF, backA, backX, wipeE, back1, xOwn, Slot.ow, Slot.re, h1, h]
end LW
set_option Elab.async false
set_option linter.all false
set_option maxRecDepth 100000
set_option maxHeartbeats 4000000
namespace DL
open PySem PySem.Spec PyProof.Rows L2 L2H HotX LamX
section
variable {X : Cx} {pins : List (Addr × Obj)} {σ : L2.St} {H : Hp} {s : Shared} {a : Addr} {oe : Obj} {cls : Value}
theorem out_pin {pn' : List (Addr × Obj)} (I : Inv (X.suite a ((a, oe) :: (X.pn ++ pins))) pn' σ H s) (ok : X.Ok) : Inv X ((a, oe) :: pins) σ H s where
  ok := ok
  os := I.os
  bare := I.bare
  base := I.base
  loc := I.loc
  cell := I.cell
  free := I.free
  freeC := I.freeC
  hok := I.hok
  len := I.len
  pin := fun p hp => I.pin p (List.mem_append_left _ (by
    rcases List.mem_append.mp hp with h | h  -- here or there
    · exact List.mem_cons_of_mem _ (List.mem_append_left _ h)
    · rcases List.mem_cons.mp h with h | h
      · subst h; exact List.mem_cons_self
      · exact List.mem_cons_of_mem _ (List.mem_append_right _ h)))
theorem hold_pin {vs : Array Value} (I : Inv X ((a, oe) :: pins) σ H s) (h0 : X.s_0.heap.get? a = none) (hp : ∀ p ∈ X.pn ++ pins, p.1 ≠ a) (hz : Zc cls none oe) (hd : oe.data = .fields vs) : Inv X pins σ (upd H a (XO cls a)) s := by
  obtain ⟨g1, g2, g3, g4, g5⟩ := I.pin (a, oe) (List.mem_append_right _ List.mem_cons_self)
  dsimp only at g1 g2 g3 g4 g5
  have U : Un X.fs X.ex X.H_0 (upd H a (XO cls a)) X.s_0.heap s.heap := ⟨I.base.keep, I.base.slot, fun b o q n hb => by
      rw [upd_ne (fun z => by rw [z, h0] at q; cases q)]
      exact I.base.free b o q n hb, I.base.there, fun b xs q => by
      have r := I.base.tups b xs q
      rw [upd_ne (ne_of_none r g2)]; exact r, fun b o u q => by
      have r := I.base.frzs b o u q
      rw [upd_ne (ne_of_none r g2)]; exact r, fun b ps q => by
      obtain ⟨m, r⟩ := I.base.tbls b ps q
      exact ⟨m, by rw [upd_ne (ne_of_none r g2)]; exact r⟩⟩
  exact
    { ok := I.ok, os := I.os, bare := I.bare, base := U, loc := I.loc, cell := I.cell, len := I.len
      free := by rw [upd_ne (Ne.symm g3)]; exact I.free
      freeC := fun x c e => by
        rw [upd_ne]
        · exact I.freeC x c e
        · intro z
          obtain ⟨v, o, q1, q2⟩ := I.cell x c e
          rw [z, g1] at q1
          cases q1
          exact g5 v q2
      pin := fun p h => by
        obtain ⟨k1, k2, k3⟩ := I.pin p (by
          rcases List.mem_append.mp h with h | h -- which
          · exact List.mem_append_left _ h
          · exact List.mem_append_right _ (List.mem_cons_of_mem _ h))
        exact ⟨k1, by rw [upd_ne (hp p h)]; exact k2, k3⟩
      hok := I.hok.laidN (fun _ _ e => e) g2 ⟨⟨oe, vs, g1, hz, hd⟩, ⟨oe, g1⟩, fun _ _ ⟨o, v, q, r⟩ k => ⟨o, v, k o q, r⟩⟩ }
end
section
variable {X : Cx} {x n : Str} {c : Value} {i : Nat} {body : List Stmt} {np p6 p8 pos pos' : Pos} {tb : WX → TS}
def wMet (K : PySem.W.Frag) (c : Value) (D : Ends) : WX := fun cls d _ H => PySem.W.exmOne K cls c = some true ∧ d = none ∧ ∀ a, H a = none → D.rt (.ref a) (upd H a (XO cls a))
theorem ps_met (hx : X.ex = []) (st : X.stack = X.env :: X.outer) (fr : X.env.frame = some X.env.locals) (nd : X.N.Nodup) (at_ : X.N[i]? = some n) (loc : X.env.kindOf n = some .local) (nm : Names X x c) (n1 : (n == ("__debug__" : Str)) = false) (n2 : (n == ("__classdict__" : Str)) = false)
    (go : ∀ (W : WX) (pn : List (Addr × Obj)) (xe : Value → Shared → Prop), L2N.Takes (X.tr pn xe) W → PSs (X.tr pn xe) body (tb W)) :
    PS X (.Try body [.ExceptHandler (some (.Name x np)) (some n) [.Return (some (.Name n p6)) p8] pos'] [] [] pos) (fun D σ H => tb (wMet X.K c D) D σ H) := by
  refine ⟨fun pins s σ H D I0 h0 => ?_⟩
  have xok := I0.ok
  have frm : X.A.frames = some (X.env :: X.outer) := by rw [xok.frames, st]
  refine wpAny_Try_except ?_
  let XE0 : Value → Shared → Prop := fun e t1 => wpAny (model X.prog X.w) X.A (noteFrame e X.env) (fun _ t2 => wpAny (model X.prog X.w) X.A (setFlight e none) (fun _ t3 => wpAny (model X.prog X.w) X.A (handleBy e X.env [.ExceptHandler (some (.Name x np)) (some n) [.Return (some (.Name n p6)) p8] pos']) (SP X pins D) X.xe t3) X.xe t2) X.xe t1
  have caught : L2N.Takes (X.tr (X.pn ++ pins) XE0) (wMet X.K c D) := by
    rintro u s' ⟨a, B, sI, pin', σ1, H1, cls, d, rfl, Jt, near, upS, inSky, free, sameO, bareG, isIt, rfl, goal⟩
    have J := Jt.ofTry xok
    have sky1 : Sky B (X.env :: X.outer) a (L2N.Zn cls none) X.env.locals s'.heap := by rw [← st]; exact inSky
    show wpAny (model X.prog X.w) X.A (noteFrame (Value.ref a) X.env) _ _ _
    refine L2N.Sky.land L2N.Zn.steady frm fr sky1 fun h3 fl3 up3 => ?_
    obtain ⟨o3, v3, e3, z3, d3⟩ := fl3.there
    have nfr : a ∉ frs (X.env :: X.outer) := fun hm => by
      obtain ⟨_, o', e', hn⟩ := fl3.2.2.1.mem hm
      rw [e3] at e'
      cases e'
      exact hn _ d3
    have nL : a ≠ X.env.locals := fun z => nfr (List.mem_filterMap.mpr ⟨X.env, List.mem_cons_self, by rw [fr, z]⟩)
    have nF : a ∉ X.fs := fun inF => by
      obtain ⟨ev, hev, qe⟩ := List.mem_filterMap.mp inF
      exact nfr (List.mem_filterMap.mpr ⟨ev, List.mem_cons_of_mem _ hev, qe⟩)
    have gone : sI.heap.get? a = none := by
      cases q : sI.heap.get? a with
      | none => rfl
      | some o =>
        have q1 := near a o q (by rw [show (X.tr (X.pn ++ pins) XE0).stack = X.env :: X.outer from st]; exact nfr)
        rw [fl3.2.1] at q1
        cases q1
    have new0 : X.s_0.heap.get? a = none := by
      cases q : X.s_0.heap.get? a with
      | none => rfl
      | some o =>
        obtain ⟨o', q'⟩ := J.base.there a o q (by rw [hx]; exact List.not_mem_nil)
        rw [gone] at q'
        cases q'
    have pinsN : ∀ p ∈ X.pn ++ pins, p.1 ≠ a := fun p hp z => by
      have q := (J.pin p hp).1
      rw [z, gone] at q
      cases q
    have J3 : Inv X pins σ1 H1 { s' with heap := h3 } := J.landed near fl3.1 (upS.trans up3) sameO bareG
    have S3 := J3.suite e3 d3 free nL nF
    refine wpAny_handleBy_cons (codeAny_handlers_test ?_) (fun q => by cases q)
    have ty : PySem.W.Looks (model X.prog X.w) h3 (typeOf (.ref a)) cls := fun A Q E s k q => wpAny_typeOf_ref (k _ _ e3) (by rw [z3.1]; exact q)
    have nameIt : ∀ {Q : Value → Shared → Prop} {E : Value → Shared → Prop}, Q c { s' with heap := h3 } → wpAny (model X.prog X.w) (X.A.mark (some (.ref a))) (eval (.Name x np) X.env) Q E { s' with heap := h3 } := fun {Q E} q => by
      obtain ⟨hg, hdbg, hm | ⟨hm, hv, hnn⟩⟩ := nm
      · exact ld_glob (X := X.suite a ((a, o3) :: (X.pn ++ pins))) S3 hg hm q hdbg
      · exact ld_blt (X := X.suite a ((a, o3) :: (X.pn ++ pins))) S3 hg hm hv q hnn hdbg
    refine nameIt ((PySem.W.exm_one (M := model X.prog X.w) J3.kIn ty isIt).here ?_)
    refine codeAny_handlers_suite_as (HandSPX.lands_againZ fl3 fun h4 fl4 up4 => ?_)
    obtain ⟨o4, v4, e4, z4, d4⟩ := fl4.there
    have J4 : Inv X pins σ1 H1 { s' with heap := h4 } := J.landed near fl4.1 ((upS.trans up3).trans up4) sameO bareG
    have S4 := J4.suite e4 d4 free nL nF
    refine store_ok (X := X.suite a ((a, o4) :: (X.pn ++ pins))) (v := .ref a) S4 nd at_ (.inl loc) rfl (fun s5 S5 => ?_) (.inr loc)
    have len1 : i < σ1.length := by rw [J.len]; exact (List.getElem?_eq_some_iff.mp at_).1
    have back : PSs (X.suite a ((a, o4) :: (X.pn ++ pins))) [.Return (some (.Name n p6)) p8] _ := pss_one (ps_ret (pos := p8) (pe_var (X := X.suite a ((a, o4) :: (X.pn ++ pins))) (i := i) at_ (.inl loc) n1 n2))
    refine wpAny_mono (back.run [] s5 _ H1 { nx := fun _ _ => False, rt := fun v H6 => v = .ref a ∧ H6 = H1 } S5 ⟨.ref a, by rw [List.getElem?_set]; simp [len1], rfl, rfl⟩) (fun f s6 hsp => ?_) (fun _ _ z => False.elim z)
    cases f with
    | next => obtain ⟨_, _, _, z⟩ := hsp; exact z.elim
    | brk => obtain ⟨_, _, _, z⟩ := hsp; exact z.elim
    | cont => obtain ⟨_, _, _, z⟩ := hsp; exact z.elim
    | ret u =>
      obtain ⟨v6, σ6, H6, S6, r6, rfl, rfl⟩ := hsp
      refine gone_ok (out_pin S6 xok) nd at_ loc fun s7 J7 => ?_
      exact ⟨_, _, _, hold_pin J7 new0 pinsN z4.zc d4, r6, goal a free⟩
  refine wpAny_mono ((go (wMet X.K c D) (X.pn ++ pins) XE0 caught).run [] s σ H D (I0.toTry _) h0) (fun f s1 hsp => ?_) (fun e s1 he => he)
  cases f with
  | next =>
    obtain ⟨σ', H', J', q⟩ := hsp
    exact wpAny_execs_nil ⟨σ', H', J'.ofTry xok, q⟩
  | brk =>
    obtain ⟨σ', H', J', q⟩ := hsp
    exact ⟨σ', H', J'.ofTry xok, q⟩
  | cont =>
    obtain ⟨σ', H', J', q⟩ := hsp
    exact ⟨σ', H', J'.ofTry xok, q⟩
  | ret u =>
    obtain ⟨v1, σ1, H1, J1, r1, q1⟩ := hsp
    exact ⟨v1, σ1, H1, J1.ofTry xok, r1, q1⟩
end
def eIsX (cs : List Str) (f : Str → Bool) (m : M D) : M D := fun env => (m env).bind fun d e => match d with
  | .exc c => if cs.elem c = true then .ok (.bl (f c)) e else .bad
  | _ => .bad
section
variable {X : Cx} {S : Gd} {W : WX} {e : Expr} {m : M D} {pos p px : Pos}
def rIsX (K : PySem.W.Frag) (T : Tb) (cs : List Str) (v2 : V) (f : Str → Bool) : List V → Hp → VK → Prop := fun xs H Q => ∃ (a C : Addr) (c : Str), c ∈ cs ∧ xs = [.ref a, v2] ∧ H a = some (XO (.ref C) a) ∧ T.exc c = some C ∧ Q (.bl (f c)) H
theorem call_isX {T : Tb} {cv : Value} {v2 : V} {f : Str → Bool} {cs : List Str} (hv : ∀ u, RelV v2 u → u = cv) (hk : ∀ c ∈ cs, ∀ C, T.exc c = some C → ExcC X.K C ∧ PySem.W.kitOne X.K (.ref C) cv = some (f c)) : CallR X (.builtin "isinstance") (rIsX X.K T cs v2 f) := by
  intro pins s σ H xs us Q I r h
  obtain ⟨a, C, c, hm, rfl, ha, hC, q⟩ := h
  obtain ⟨ec, e⟩ := hk c hm C hC
  cases r with
  | cons rx rr =>
    cases rr with
    | cons rt rr =>
      cases rr
      cases rx
      obtain rfl := hv _ rt
      obtain ⟨⟨oe, vs, hget, hz, hd⟩, _⟩ := I.hok a _ ha
      have J : PySem.W.InstAt s.heap a oe C none := by
        obtain ⟨oc, od, oda, osl⟩ := oe
        obtain ⟨h1, h2⟩ := hz
        dsimp only at h1 h2 hd
        subst h1 h2 hd
        exact ⟨hget, rfl, rfl, trivial⟩
      exact PySem.W.kia_one (PySem.W.handS_kitx_exc ec.hg ec.hk ec.hs ec.hd ec.ha ec.hn ec.ht ec.hm) I.kIn J e (fun z => nomatch z) fun tk => ⟨.bl (f c), H, I.kept (t' := tk) fun _ _ z => z, rfl, q⟩
theorem de_isX {x : Str} {v2 : V} {cv : Value} {f : Str → Bool} {cs : List Str} (hv : ∀ u, RelV v2 u → u = cv) (hk : ∀ c ∈ cs, ∀ C, S.T.exc c = some C → ExcC X.K C ∧ PySem.W.kitOne X.K (.ref C) cv = some (f c)) (he : PE X e (tD S W m)) (hc : PE X (.Name x px) (tC v2))
    (hg : Gl X "isinstance") (hm : X.mg "isinstance" = none) (hs : starEach [e, .Name x px] X.env = (false, eval e X.env) :: starEach [.Name x px] X.env := by rfl) (hs2 : starEach [.Name x px] X.env = (false, eval (.Name x px) X.env) :: starEach [] X.env := by rfl)
    (hpl : (backTo pos (starEach [.Name x px] X.env)).any (·.1) = false := by rfl) : PE X (.Call (.Name "isinstance" p) [e, .Name x px] [] pos) (tD S W (eIsX cs f m)) :=
  PE.imp (pe_callB (call_isX (T := S.T) hv hk) hg hm (by decide +kernel) (pa_cons he (pa_cons hc pa_nil hs2) hs) (by decide) (by decide) hs hpl) fun σ H Q ⟨F, env, ad, sr, p⟩ => ⟨F, env, ad, sr, p.bind.imp fun d e1 H1 F1 ad1 le1 sr1 q v r => by
    have q2 := q.2
    split at q2
    · rename_i c
      split at q2
      · rename_i hm
        cases r with
        | exc hC h1 => exact ⟨_, _, c, List.elem_iff.mp hm, rfl, sr1.sub _ _ h1, hC, q2 H1 F1 ad1 (Le.refl F1) sr1 _ (.bl _)⟩
      · exact q2.elim
    · exact q2.elim⟩
end
def eMet (cs : List Str) (m : M D) : M D := fun env => match m env with
  | .ok _ e => .ok .non e
  | .exc c e => if cs.elem c = true then .ok (.exc c) e else .bad
  | .bad => .bad
abbrev metB (p1 p2 p3 p4 p6 p8 p9 p10 p11 p12 : Pos) (j : Nat) : List Stmt := [.Try [.Expr (.Call (.Name "deed" p1) [] [] p2) p3] [.ExceptHandler (some (.Name "StepError" p4)) (some "e") [.Return (some (.Name "e" p6)) p8] p9] [] [] p10, .Return (some (.Constant .none j p11)) p12]
section
variable {X : Cx} {T : Tb} {H0 F0 : Hp} {OA : List Addr} {V0 : L2.St} {W : WX} {g c P CS : Addr} {k j : Nat} {pg params : Arguments} {sg scope : Scope} {fd : FuncData} {body : Expr} {m : M D} {p lpos pos p1 p2 p3 p4 p6 p8 p9 p10 p11 p12 : Pos} {cs : List Str}
theorem met_gives (hCS : X.mg "StepError" = some (.ref CS)) (nd : ([Str.ofString "deed", "e"] : List Str).Nodup) (l1 : sg.names.lookup (Str.ofString "e") = some .local) (l2 : sg.names.lookup (Str.ofString "StepError") = some .globalImplicit) (cdv : Value) :
    Gives X ["deed", "e"] "_law_met" sg g cdv (metB p1 p2 p3 p4 p6 p8 p9 p10 p11 p12 j) "deed" (X.env.qual ++ "<lambda>")
      (fun tl H Q => tl (fun cls d H' => PySem.W.exmOne X.K cls (.ref CS) = some true ∧ d = none ∧ ∀ a, H' a = none → Q (.ref a) (upd H' a (XO cls a))) H fun _ H' => Q .non H') k := by
  intro f c' s H Q tl act hrm hco ht
  have A1 := ps_met (X := (cxOf C8.CX0 X.prog X.w X.K X.mg X.base ["deed", "e"] "_law_met" sg g cdv X.A X.stack s H C8.E0).nox) (x := "StepError") (n := "e") (c := .ref CS) (i := 1) (np := p4) (p6 := p6) (p8 := p8) (pos := p10) (pos' := p9) (body := [.Expr (.Call (.Name "deed" p1) [] [] p2) p3])
    (tb := fun W D σ H => ∃ Ech : XK, (∀ cls d σ' H', Ech cls d H' → W cls d σ' H') ∧ σ[0]? = some (some (.ref f)) ∧ H c' = some (CodeO c' (X.env.qual ++ "<lambda>")) ∧ tl Ech H (fun _ H' => D.nx σ H'))
    rfl rfl rfl nd rfl l1 ⟨l2, by decide, .inl hCS⟩ (by decide) (by decide) (fun W pn xe tk => ⟨fun pins s' σ H' D I ⟨Ech, hW, h1, h2, h3⟩ => (pss_one (ps_expr (pos := p3) (act _ pn xe Ech p1 p2 tk fun cls d σ' H' z => hW cls d σ' H' z))).run pins s' σ H' D I ⟨h1, h2, h3⟩⟩)
  refine ⟨_, pss_cons A1 (pss_one (ps_ret (pos := p12) pe_non)), ?_⟩
  exact ⟨_, fun cls d σ' H' z => z, rfl, hco, ht⟩
theorem de_met (hx : ∀ c ∈ cs, ∀ C, T.exc c = some C → PySem.W.exmOne T.K (.ref C) (.ref CS) = some true) (hCS : X.mg "StepError" = some (.ref CS)) (F : FunD T.K "_law_met" "_law_met" pg (metB p1 p2 p3 p4 p6 p8 p9 p10 p11 p12 j) sg [] [] g fd)
    (hm : X.mg "_law_met" = some (.ref g)) (hb : L2.Binds T.K fd ["deed"] []) (Sg : FnScope ["deed", "e"] ["deed"] sg) (l0 : sg.names.lookup (Str.ofString "deed") = some .local) (l1 : sg.names.lookup (Str.ofString "e") = some .local) (l2 : sg.names.lookup (Str.ofString "StepError") = some .globalImplicit)
    (TB : TabB X.base X.mg c P) (hcode : X.env.code = .ref c) (hmT : (P, X.env.qual ++ "<lambda>") ∈ T.tabs) (hu : ∀ p ∈ T.tabs, p.1 = P → p.2 = X.env.qual ++ "<lambda>") (hr : Room (k + 2) X.A) (L : LamS X.env.scope scope) (hdef : defaultsOf params X.env = ([], []))
    (hbind : ∀ (q : Str) (cl : List (Str × Addr)) (pm cv ctv : Value), bindArgs (PySem.W.kla_fn "<lambda>" q params body scope cl pm cv ctv) ⟨[], []⟩ = pure [])
    (hbody : ∀ (A : Around) (outer : List PySem.Env) (s : Shared) (H : Hp) (E : XK) (f c' : Addr), Room k (A.deeper (lamEnv X scope s.heap.objs.size f c')) → PE (lamN X A outer s H E scope f c') body (tD ⟨T, H0, F0, OA, V0⟩ (wOf E) m))
    (hK : X.K = T.K := by rfl) (hg : Gl X "_law_met" := by rfl) : PE X (.Call (.Name "_law_met" p) [.Lambda params body scope lpos] [] pos) (tD ⟨T, H0, F0, OA, V0⟩ W (eMet cs m)) := by
  rw [← hK] at F hb hx
  refine PE.imp (pe_lamN (k := k) (T := T.tabs) (a := "deed") F hg hm hb Sg rfl (.inl l0) (met_gives hCS Sg.nd l1 l2) TB hcode hmT hu hr L hdef hbind hbody) fun σ H Q ⟨FF, env, ad, sr, pq⟩ => ⟨sr.tab.tabs, fun H1 gr T1 => ⟨FF, env, ad, sr.grown gr T1, ?_⟩⟩
  unfold eMet at pq
  cases q : m env with
  | bad => rw [q] at pq; exact pq.elim
  | ok d e =>
    rw [q] at pq
    intro H2 F2 ad2 le2 sr2 v r2
    exact pq H2 F2 ad2 le2 sr2 .non .non
  | exc cc e =>
    rw [q] at pq
    simp only at pq
    by_cases hc : cs.elem cc = true
    · rw [if_pos hc] at pq
      have hmem : cc ∈ cs := List.elem_iff.mp hc
      intro C H' F' ad' hC le sr'
      refine ⟨hx cc hmem C hC, rfl, fun a ha => ?_⟩
      obtain ⟨s3, l3⟩ := sr'.alloc (p := a) (o := XO (.ref C) a) ha (fun ps z => by unfold XO at z; cases z)
      exact pq _ _ ad' (le.trans l3) s3 _ (.exc hC (by rw [upd_same]))
    · rw [if_neg hc] at pq
      exact pq.elim
end
structure MetOk (T : Tb) (mg : Str → Option Value) (cs : List Str) : Prop where
  ex : ∃ (CS g : Addr) (pg : Arguments) (sg : Scope) (fd : FuncData) (p1 p2 p3 p4 p6 p8 p9 p10 p11 p12 : Pos) (j : Nat), (∀ c ∈ cs, ∀ C, T.exc c = some C → PySem.W.exmOne T.K (.ref C) (.ref CS) = some true) ∧ mg "StepError" = some (.ref CS) ∧ FunD T.K "_law_met" "_law_met" pg (metB p1 p2 p3 p4 p6 p8 p9 p10 p11 p12 j) sg [] [] g fd ∧
    mg "_law_met" = some (.ref g) ∧ L2.Binds T.K fd ["deed"] [] ∧ FnScope ["deed", "e"] ["deed"] sg ∧ sg.names.lookup (Str.ofString "deed") = some .local ∧ sg.names.lookup (Str.ofString "e") = some .local ∧ sg.names.lookup (Str.ofString "StepError") = some .globalImplicit
section
variable {X : Cx} {T : Tb} {H0 F0 : Hp} {OA : List Addr} {V0 : L2.St} {W : WX} {c P : Addr} {k : Nat} {params : Arguments} {scope : Scope} {body : Expr} {m : M D} {p lpos pos : Pos} {cs : List Str}
theorem de_metT (TK : MetOk T X.mg cs) (TB : TabB X.base X.mg c P) (hcode : X.env.code = .ref c) (hmT : (P, X.env.qual ++ "<lambda>") ∈ T.tabs) (hu : ∀ p ∈ T.tabs, p.1 = P → p.2 = X.env.qual ++ "<lambda>") (hr : Room (k + 2) X.A) (L : LamS X.env.scope scope) (hdef : defaultsOf params X.env = ([], []))
    (hbind : ∀ (q : Str) (cl : List (Str × Addr)) (pm cv ctv : Value), bindArgs (PySem.W.kla_fn "<lambda>" q params body scope cl pm cv ctv) ⟨[], []⟩ = pure [])
    (hbody : ∀ (A : Around) (outer : List PySem.Env) (s : Shared) (H : Hp) (E : XK) (f c' : Addr), Room k (A.deeper (lamEnv X scope s.heap.objs.size f c')) → PE (lamN X A outer s H E scope f c') body (tD ⟨T, H0, F0, OA, V0⟩ (wOf E) m))
    (hK : X.K = T.K := by rfl) (hg : Gl X "_law_met" := by rfl) : PE X (.Call (.Name "_law_met" p) [.Lambda params body scope lpos] [] pos) (tD ⟨T, H0, F0, OA, V0⟩ W (eMet cs m)) := by
  obtain ⟨CS, g, pg, sg, fd, p1, p2, p3, p4, p6, p8, p9, p10, p11, p12, j, t1, t2, t3, t4, t5, t6, t7, t8, t9⟩ := TK.ex
  exact de_met t1 t2 t3 t4 t5 t6 t7 t8 t9 TB hcode hmT hu hr L hdef hbind hbody hK hg
end
end DL
set_option Elab.async false
set_option linter.all false
set_option maxRecDepth 100000
set_option maxHeartbeats 0
namespace LW
open PySem PySem.Spec PyProof.Rows L2 L2H HotX LamX DL
def b_Suite_undo_x : DL.Env → Fl := (sSeq (sIf (asB (eOp eqN (eFldV "Suite" "history" 0) (eLst aNil))) (sRaise "NothingToUndo") sNil) sBad)
def f_Suite_undo_x : Fn := fnD 3 b_Suite_undo_x
def b_is_ladder_x : DL.Env → Fl := (sSeq (sExp (eFn 0 1 f_check_pattern (xDat (eVar 0) xNil))) (sSeq (sIf (bNot (asB (eFn 0 3 f_is_integer (xDat (eVar 1) (xDat (eC (.int 1)) (xDat (eC (.int 20)) xNil)))))) (sRaise "BadDegree") sNil) sBad))
def f_is_ladder_x : Fn := fnD 14 b_is_ladder_x
def s_Suite_init_1 : DL.Env → Fl := (sExp (eFn 0 1 f_check_pattern (xDat (eVar 1) xNil)))
def s_Suite_init_2 : DL.Env → Fl := (sIf (bNot (asB (eFn 0 3 f_is_integer (xDat (eVar 2) (xDat (eC (.int 1)) (xDat (eC (.int 1000000)) xNil)))))) (sRaise "BadBudget") sNil)
def s_Suite_init_3 : DL.Env → Fl := (sFldD "Suite" "current" 0 (eVar 1))
def s_Suite_init_4 : DL.Env → Fl := (sFldD "Suite" "budget" 0 (eVar 2))
def s_Suite_init_5 : DL.Env → Fl := (sFldO "Suite" "texts" 0 (oLst aNil))
def s_Suite_init_6 : DL.Env → Fl := (sFldO "Suite" "history" 0 (oLst aNil))
def b_Suite_init : DL.Env → Fl := (sSeq s_Suite_init_1 (sSeq s_Suite_init_2 (sSeq s_Suite_init_3 (sSeq s_Suite_init_4 (sSeq s_Suite_init_5 s_Suite_init_6)))))
def f_Suite_init : Fn := fnD 3 b_Suite_init
def s_Reader_init_1 : DL.Env → Fl := (sFldD "Reader" "string" 0 (eVar 1))
def s_Reader_init_2 : DL.Env → Fl := (sFldD "Reader" "at" 0 (eC (.int 0)))
def b_Reader_init : DL.Env → Fl := (sSeq s_Reader_init_1 s_Reader_init_2)
def f_Reader_init : Fn := fnD 2 b_Reader_init
def s_Reader_peek_1 : DL.Env → Fl := (sRet (eSl (eFldV "Reader" "string" 0) (pSo (eFldV "Reader" "at" 0)) (pSo (eOp addD (eFldV "Reader" "at" 0) (eC (.int 1))))))
def b_Reader_peek : DL.Env → Fl := s_Reader_peek_1
def f_Reader_peek : Fn := fnD 1 b_Reader_peek
def s_Reader_take_1 : DL.Env → Fl := (sAsg (eMeO "Reader" "peek" 0 1 f_Reader_peek xNil) (gNm 1))
def s_Reader_take_2 : DL.Env → Fl := (sFldD "Reader" "at" 0 (eOp addD (eFldV "Reader" "at" 0) (eC (.int 1))))
def s_Reader_take_3 : DL.Env → Fl := (sRet (eVar 1))
def b_Reader_take : DL.Env → Fl := (sSeq s_Reader_take_1 (sSeq s_Reader_take_2 s_Reader_take_3))
def f_Reader_take : Fn := fnD 2 b_Reader_take
def t_Reader_atom_1 (r0 : Fn) (r1 : Fn) (r2 : Fn) : M Bool := (bAnd (asB (eOp neD (eMeO "Reader" "peek" 0 1 f_Reader_peek xNil) (eC (.str "")))) (asB (eOp inD (eMeO "Reader" "peek" 0 1 f_Reader_peek xNil) (eC (.str "abc")))))
def l_Reader_atom_1 (r0 : Fn) (r1 : Fn) (r2 : Fn) : DL.Env → Fl := (sAsg (eOp addD (eVar 3) (eMeO "Reader" "take" 0 1 f_Reader_take xNil)) (gNm 3))
def t_Reader_atom_2 (r0 : Fn) (r1 : Fn) (r2 : Fn) : M Bool := (asB (eOp eqD (eMeO "Reader" "peek" 0 1 f_Reader_peek xNil) (eC (.str "|"))))
def l_Reader_atom_2 (r0 : Fn) (r1 : Fn) (r2 : Fn) : DL.Env → Fl := (sSeq (sExp (eMeO "Reader" "take" 0 1 f_Reader_take xNil)) (sExp (eApp 2 (eMeO "Reader" "sequence" 0 1 r2 xNil))))
def s_Reader_atom_1 (r0 : Fn) (r1 : Fn) (r2 : Fn) : DL.Env → Fl := (sAsg (eMeO "Reader" "take" 0 1 f_Reader_take xNil) (gNm 1))
def s_Reader_atom_2 (r0 : Fn) (r1 : Fn) (r2 : Fn) : DL.Env → Fl := (sIf (bAnd (asB (eOp neD (eVar 1) (eC (.str "")))) (asB (eOp inD (eVar 1) (eC (.str "abc"))))) (sRet (eTup (aCons (eC (.str "set")) (aCons (eVar 1) aNil)))) sNil)
def s_Reader_atom_3 (r0 : Fn) (r1 : Fn) (r2 : Fn) : DL.Env → Fl := (sIf (asB (eOp eqD (eVar 1) (eC (.str "[")))) (sSeq (sAsg (eC (.str "")) (gNm 3)) (sSeq (sWhile 300 (t_Reader_atom_1 r0 r1 r2) (l_Reader_atom_1 r0 r1 r2)) (sSeq (sIf (asB (eOp neD (eMeO "Reader" "take" 0 1 f_Reader_take xNil) (eC (.str "]")))) (sRaise "BadSyntax") sNil) (sRet (eTup (aCons (eC (.str "set")) (aCons (eVar 3) aNil))))))) sNil)
def s_Reader_atom_4 (r0 : Fn) (r1 : Fn) (r2 : Fn) : DL.Env → Fl := (sIf (asB (eOp neD (eVar 1) (eC (.str "(")))) (sRaise "BadSyntax") sNil)
def s_Reader_atom_5 (r0 : Fn) (r1 : Fn) (r2 : Fn) : DL.Env → Fl := (sOwn (oLst (aCons (eMeO "Reader" "sequence" 0 1 r2 xNil) aNil)) 2)
def s_Reader_atom_6 (r0 : Fn) (r1 : Fn) (r2 : Fn) : DL.Env → Fl := (sWhile 300 (t_Reader_atom_2 r0 r1 r2) (l_Reader_atom_2 r0 r1 r2))
def s_Reader_atom_7 (r0 : Fn) (r1 : Fn) (r2 : Fn) : DL.Env → Fl := (sIf (asB (eOp neD (eMeO "Reader" "take" 0 1 f_Reader_take xNil) (eC (.str ")")))) (sRaise "BadSyntax") sNil)
def s_Reader_atom_8 (r0 : Fn) (r1 : Fn) (r2 : Fn) : DL.Env → Fl := (sRet (eIf (asB (eOp eqD (eUn lenD (wVar 2)) (eC (.int 1)))) (eIxV 2 (eC (.int 0))) (eTup (aCons (eC (.str "alt")) (aCons (eCall tupleD (aCons (eVar 2) aNil)) aNil)))))
def b_Reader_atom (r0 : Fn) (r1 : Fn) (r2 : Fn) : DL.Env → Fl := (sSeq (s_Reader_atom_1 r0 r1 r2) (sSeq (s_Reader_atom_2 r0 r1 r2) (sSeq (s_Reader_atom_3 r0 r1 r2) (sSeq (s_Reader_atom_4 r0 r1 r2) (sSeq (s_Reader_atom_5 r0 r1 r2) (sSeq (s_Reader_atom_6 r0 r1 r2) (sSeq (s_Reader_atom_7 r0 r1 r2) (s_Reader_atom_8 r0 r1 r2))))))))
def t_Reader_repeated_1 (r0 : Fn) (r1 : Fn) (r2 : Fn) : M Bool := (bAnd (asB (eOp neD (eMeO "Reader" "peek" 0 1 f_Reader_peek xNil) (eC (.str "")))) (asB (eOp inD (eMeO "Reader" "peek" 0 1 f_Reader_peek xNil) (eC (.str "?*")))))
def l_Reader_repeated_1 (r0 : Fn) (r1 : Fn) (r2 : Fn) : DL.Env → Fl := (sAsg (eTup (aCons (eIf (asB (eOp eqD (eMeO "Reader" "take" 0 1 f_Reader_take xNil) (eC (.str "?")))) (eC (.str "opt")) (eC (.str "star"))) (aCons (eVar 1) aNil))) (gNm 1))
def s_Reader_repeated_1 (r0 : Fn) (r1 : Fn) (r2 : Fn) : DL.Env → Fl := (sAsg (eMeO "Reader" "atom" 0 1 r0 xNil) (gNm 1))
def s_Reader_repeated_2 (r0 : Fn) (r1 : Fn) (r2 : Fn) : DL.Env → Fl := (sWhile 300 (t_Reader_repeated_1 r0 r1 r2) (l_Reader_repeated_1 r0 r1 r2))
def s_Reader_repeated_3 (r0 : Fn) (r1 : Fn) (r2 : Fn) : DL.Env → Fl := (sRet (eVar 1))
def b_Reader_repeated (r0 : Fn) (r1 : Fn) (r2 : Fn) : DL.Env → Fl := (sSeq (s_Reader_repeated_1 r0 r1 r2) (sSeq (s_Reader_repeated_2 r0 r1 r2) (s_Reader_repeated_3 r0 r1 r2)))
def t_Reader_sequence_1 (r0 : Fn) (r1 : Fn) (r2 : Fn) : M Bool := (bAnd (asB (eOp neD (eMeO "Reader" "peek" 0 1 f_Reader_peek xNil) (eC (.str "")))) (asB (eOp ninD (eMeO "Reader" "peek" 0 1 f_Reader_peek xNil) (eC (.str "|)")))))
def l_Reader_sequence_1 (r0 : Fn) (r1 : Fn) (r2 : Fn) : DL.Env → Fl := (sExp (eApp 1 (eMeO "Reader" "repeated" 0 1 r1 xNil)))
def s_Reader_sequence_1 (r0 : Fn) (r1 : Fn) (r2 : Fn) : DL.Env → Fl := (sOwn (oLst aNil) 1)
def s_Reader_sequence_2 (r0 : Fn) (r1 : Fn) (r2 : Fn) : DL.Env → Fl := (sWhile 300 (t_Reader_sequence_1 r0 r1 r2) (l_Reader_sequence_1 r0 r1 r2))
def s_Reader_sequence_3 (r0 : Fn) (r1 : Fn) (r2 : Fn) : DL.Env → Fl := (sIf (asB (eOpV eqN 1 (eLst aNil))) (sRaise "BadSyntax") sNil)
def s_Reader_sequence_4 (r0 : Fn) (r1 : Fn) (r2 : Fn) : DL.Env → Fl := (sRet (eIf (asB (eOp eqD (eUn lenD (wVar 1)) (eC (.int 1)))) (eIxV 1 (eC (.int 0))) (eTup (aCons (eC (.str "seq")) (aCons (eCall tupleD (aCons (eVar 1) aNil)) aNil)))))
def b_Reader_sequence (r0 : Fn) (r1 : Fn) (r2 : Fn) : DL.Env → Fl := (sSeq (s_Reader_sequence_1 r0 r1 r2) (sSeq (s_Reader_sequence_2 r0 r1 r2) (sSeq (s_Reader_sequence_3 r0 r1 r2) (s_Reader_sequence_4 r0 r1 r2))))
def g_Reader_atom : Nat → Fn × Fn × Fn
  | 0 => (noFn, noFn, noFn)
  | k + 1 => (fnD 4 (b_Reader_atom ((g_Reader_atom k).1) ((g_Reader_atom k).2.1) ((g_Reader_atom k).2.2)), fnD 2 (b_Reader_repeated ((g_Reader_atom k).1) ((g_Reader_atom k).2.1) ((g_Reader_atom k).2.2)), fnD 2 (b_Reader_sequence ((g_Reader_atom k).1) ((g_Reader_atom k).2.1) ((g_Reader_atom k).2.2)))
def f_Reader_atom (k : Nat) : Fn := (g_Reader_atom k).1
def f_Reader_repeated (k : Nat) : Fn := (g_Reader_atom k).2.1
def f_Reader_sequence (k : Nat) : Fn := (g_Reader_atom k).2.2
def s_grouped_1 (r0 : Fn) (r1 : Fn) : DL.Env → Fl := (sAsg (eFn 0 1 r1 (xDat (eVar 0) xNil)) (gNm 2))
def s_grouped_2 (r0 : Fn) (r1 : Fn) : DL.Env → Fl := (sRet (eIf (asB (eOp inD (eOp ixD (eVar 0) (eC (.int 0))) (eVar 1))) (eOp addD (eOp addD (eC (.str "(")) (eVar 2)) (eC (.str ")"))) (eVar 2)))
def b_grouped (r0 : Fn) (r1 : Fn) : DL.Env → Fl := (sSeq (s_grouped_1 r0 r1) (s_grouped_2 r0 r1))
def c_written_1 (r0 : Fn) (r1 : Fn) : M D := (eFn 0 1 r1 (xDat (eVar 1) xNil))
def c_written_2 (r0 : Fn) (r1 : Fn) : M D := (eFn 0 2 r0 (xDat (eVar 1) (xDat (eTup (aCons (eC (.str "seq")) aNil)) xNil)))
def s_written_1 (r0 : Fn) (r1 : Fn) : DL.Env → Fl := (sIf (asB (eOp eqD (eOp ixD (eVar 0) (eC (.int 0))) (eC (.str "set")))) (sRet (eIf (asB (eOp eqD (eUn lenD (eOp ixD (eVar 0) (eC (.int 1)))) (eC (.int 1)))) (eOp ixD (eVar 0) (eC (.int 1))) (eOp addD (eOp addD (eC (.str "[")) (eOp ixD (eVar 0) (eC (.int 1)))) (eC (.str "]"))))) sNil)
def s_written_2 (r0 : Fn) (r1 : Fn) : DL.Env → Fl := (sIf (asB (eOp eqD (eOp ixD (eVar 0) (eC (.int 0))) (eC (.str "alt")))) (sRet (eOp addD (eOp addD (eC (.str "(")) (eJoin (eC (.str "|")) (eFrz (oLc [1] (iTpl (eOp ixD (eVar 0) (eC (.int 1)))) (gNm 1) bYes (c_written_1 r0 r1))))) (eC (.str ")")))) sNil)
def s_written_3 (r0 : Fn) (r1 : Fn) : DL.Env → Fl := (sIf (asB (eOp eqD (eOp ixD (eVar 0) (eC (.int 0))) (eC (.str "seq")))) (sRet (eJoin (eC (.str "")) (eFrz (oLc [1] (iTpl (eOp ixD (eVar 0) (eC (.int 1)))) (gNm 1) bYes (c_written_2 r0 r1))))) sNil)
def s_written_4 (r0 : Fn) (r1 : Fn) : DL.Env → Fl := (sRet (eOp addD (eFn 0 2 r0 (xDat (eOp ixD (eVar 0) (eC (.int 1))) (xDat (eTup (aCons (eC (.str "seq")) (aCons (eC (.str "opt")) (aCons (eC (.str "star")) aNil)))) xNil))) (eIf (asB (eOp eqD (eOp ixD (eVar 0) (eC (.int 0))) (eC (.str "opt")))) (eC (.str "?")) (eC (.str "*")))))
def b_written (r0 : Fn) (r1 : Fn) : DL.Env → Fl := (sSeq (s_written_1 r0 r1) (sSeq (s_written_2 r0 r1) (sSeq (s_written_3 r0 r1) (s_written_4 r0 r1))))
def g_grouped : Nat → Fn × Fn
  | 0 => (noFn, noFn)
  | k + 1 => (fnD 3 (b_grouped ((g_grouped k).1) ((g_grouped k).2)), fnD 2 (b_written ((g_grouped k).1) ((g_grouped k).2)))
def f_grouped (k : Nat) : Fn := (g_grouped k).1
def f_written (k : Nat) : Fn := (g_grouped k).2
def s_parse_1 : DL.Env → Fl := (sIf (bOr (bNot (asB (eUn (isiD "str") (eVar 0)))) (asB (eOp gtD (eUn lenD (eVar 0)) (eC (.int 200))))) (sRaise "BadSyntax") sNil)
def s_parse_2 : DL.Env → Fl := (sOwn (oMake "Reader" 2 f_Reader_init (xDat (eVar 0) xNil)) 1)
def s_parse_3 : DL.Env → Fl := (sAsg (eMeO "Reader" "sequence" 1 1 (f_Reader_sequence 60) xNil) (gNm 2))
def s_parse_4 : DL.Env → Fl := (sIf (bOr (asB (eOp neD (eMeO "Reader" "peek" 1 1 f_Reader_peek xNil) (eC (.str "")))) (bOr (bNot (asB (eFn 0 1 f_is_pattern (xDat (eVar 2) xNil)))) (asB (eOp neD (eFn 0 1 (f_written 40) (xDat (eVar 2) xNil)) (eVar 0))))) (sRaise "BadSyntax") sNil)
def s_parse_5 : DL.Env → Fl := (sRet (eVar 2))
def b_parse : DL.Env → Fl := (sSeq s_parse_1 (sSeq s_parse_2 (sSeq s_parse_3 (sSeq s_parse_4 s_parse_5))))
def f_parse : Fn := fnD 3 b_parse
def b_attempts_x : DL.Env → Fl := (sSeq (sExp (eFn 0 1 f_check_pattern (xDat (eVar 0) xNil))) (sSeq (sExp (eFn 0 2 f_check_text (xDat (eVar 1) (xDat (eC (.int 60)) xNil)))) (sSeq (sIf (asB (eOp gtD (eOp ixD (eFn 0 2 f_run_of (xDat (eVar 0) (xDat (eVar 1) xNil))) (eC (.int 1))) (eC (.int 1000)))) (sRaise "TooMany") sNil) sBad)))
def f_attempts_x : Fn := fnD 3 b_attempts_x
def c_law_alone_1 : M D := (eOp eqD (eVar 3) (eVar 1))
def s_law_alone_1 : DL.Env → Fl := (sAsg (eLst (aCons (eIsX exNames (fun c => decide (c = "BadPattern")) (eVar 0)) (aCons (eIsX exNames (fun c => decide (c = "BadText")) (eVar 0)) (aCons (eIsX exNames (fun c => decide (c = "BadWord")) (eVar 0)) aNil)))) (gNm 2))
def s_law_alone_2 : DL.Env → Fl := (sAsg (eOp addD (eVar 2) (eLst (aCons (eIsX exNames (fun c => decide (c = "BadPosition")) (eVar 0)) aNil))) (gNm 2))
def s_law_alone_3 : DL.Env → Fl := (sAsg (eOp addD (eVar 2) (eLst (aCons (eIsX exNames (fun c => decide (c = "BadLength")) (eVar 0)) (aCons (eIsX exNames (fun c => decide (c = "BadDegree")) (eVar 0)) (aCons (eIsX exNames (fun c => decide (c = "BadBudget")) (eVar 0)) aNil))))) (gNm 2))
def s_law_alone_4 : DL.Env → Fl := (sAsg (eOp addD (eVar 2) (eLst (aCons (eIsX exNames (fun c => decide (c = "BadSyntax")) (eVar 0)) (aCons (eIsX exNames (fun c => decide (c = "TooMany")) (eVar 0)) (aCons (eIsX exNames (fun c => decide (c = "NothingToUndo")) (eVar 0)) aNil))))) (gNm 2))
def s_law_alone_5 : DL.Env → Fl := (sRet (eAnd (eIsX exNames (fun _ => true) (eVar 0)) (eOp eqD (eVar 2) (eFrz (oLc [3] (iRg1 (aCons (eC (.int 10)) aNil)) (gNm 3) bYes c_law_alone_1)))))
def b_law_alone : DL.Env → Fl := (sSeq s_law_alone_1 (sSeq s_law_alone_2 (sSeq s_law_alone_3 (sSeq s_law_alone_4 s_law_alone_5))))
def f_law_alone : Fn := fnD 4 b_law_alone
end LW
set_option Elab.async false
set_option linter.all false
set_option maxRecDepth 100000
set_option maxHeartbeats 0
namespace LW
open PySem PySem.Spec PyProof.Rows L2 L2H HotX LamX DL
def c_law_1 : M D := (eFn 0 2 f_law_alone (xDat (eVar 7) (xDat (eVar 6) xNil)))
def s_law_1 : DL.Env → Fl := (sAsg (eTup (aCons (eOp addD (eC (.int 1)) (eFn 1 2 f_law_roll (xOwn 1 (xDat (eC (.int 9)) xNil)))) (aCons (eTup (aCons (eC (.str "set")) (aCons (eC (.str "a")) aNil))) aNil))) (gTu 2 (gCo (gNm 4) (gCo (gNm 5) gNo))))
def s_law_2 : DL.Env → Fl := (sAsg (eTup (aCons (eC (.str "star")) (aCons (eTup (aCons (eC (.str "alt")) (aCons (eTup (aCons (eVar 5) (aCons (eVar 5) aNil))) aNil))) aNil))) (gNm 2))
def s_law_3 : DL.Env → Fl := (sOwn (oLst (aCons (eMet exNames (eFn 0 1 f_growth_x (xDat (eTup (aCons (eC (.str "set")) (aCons (eOp mulD (eC (.str "a")) (eOp addD (eC (.int 1)) (eVar 4))) aNil))) xNil))) aNil)) 3)
def s_law_4 : DL.Env → Fl := (sExp (eApp 3 (eMet exNames (eFn 0 2 f_steps (xDat (eVar 5) (xDat (eOp mulD (eC (.str "d")) (eVar 4)) xNil))))))
def s_law_5 : DL.Env → Fl := (sExp (eApp 3 (eMet exNames (eFn 0 2 f_paths_to (xDat (eVar 5) (xDat (eOp mulD (eC (.str "x")) (eVar 4)) xNil))))))
def s_law_6 : DL.Env → Fl := (sExp (eApp 3 (eMet exNames (eFn 0 2 f_follow_list (xDat (eVar 5) (xDat (eVar 4) xNil))))))
def s_law_7 : DL.Env → Fl := (sExp (eApp 3 (eMet exNames (eFn 0 2 f_worst (xDat (eVar 5) (xDat (eOp addD (eC (.int 5)) (eVar 4)) xNil))))))
def s_law_8 : DL.Env → Fl := (sExp (eApp 3 (eMet exNames (eFn 0 3 f_is_ladder_x (xDat (eVar 5) (xDat (eOp addD (eC (.int 20)) (eVar 4)) (xDat (eC .non) xNil)))))))
def s_law_9 : DL.Env → Fl := (sExp (eApp 3 (eMet exNames (eFrz (oMake "Suite" 3 f_Suite_init (xDat (eVar 5) (xDat (eOp addD (eC (.int 1000000)) (eVar 4)) xNil)))))))
def s_law_10 : DL.Env → Fl := (sExp (eApp 3 (eMet exNames (eFn 0 1 f_parse (xDat (eOp mulD (eC (.str "(")) (eVar 4)) xNil)))))
def s_law_11 : DL.Env → Fl := (sExp (eApp 3 (eMet exNames (eFn 0 2 f_attempts_x (xDat (eVar 2) (xDat (eOp addD (eOp mulD (eC (.str "a")) (eOp addD (eC (.int 8)) (eVar 4))) (eC (.str "x"))) xNil))))))
def s_law_12 : DL.Env → Fl := (sExp (eApp 3 (eMet exNames (eMeD "Suite" "undo" 0 1 f_Suite_undo_x (eFrz (oMake "Suite" 3 f_Suite_init (xDat (eVar 2) (xDat (eVar 4) xNil)))) xNil))))
def s_law_13 : DL.Env → Fl := (sIf (bNot (asB (eCall allD (aCons (eFrz (oLc [6, 7] (iEnu (aCons (eVar 3) aNil)) (gTu 2 (gCo (gNm 6) (gCo (gNm 7) gNo))) bYes c_law_1)) aNil)))) (sRet (eC (.bl false))) sNil)
def r_law : DL.Env → Fl := (sSeq s_law_1 (sSeq s_law_2 (sSeq s_law_3 (sSeq s_law_4 (sSeq s_law_5 (sSeq s_law_6 (sSeq s_law_7 (sSeq s_law_8 (sSeq s_law_9 (sSeq s_law_10 (sSeq s_law_11 (sSeq s_law_12 s_law_13))))))))))))
def b_law : DL.Env → Fl := (sSeq (sRounds 0 1 4 czS cntS r_law) (sRet (eC (.bl true))))
def f_law : Fn := fnD 8 b_law
end LW
set_option Elab.async false
set_option linter.all false
set_option maxRecDepth 100000
set_option maxHeartbeats 4000000
namespace LW
open PySem PySem.Spec PyProof.Rows L2 L2H HotX LamX DL
def one19 : D := .tup [.str "set", .str "a"]
def rest19 : DL.Env → Fl := sSeq s_law_2 (sSeq s_law_3 (sSeq s_law_4 (sSeq s_law_5 (sSeq s_law_6 (sSeq s_law_7 (sSeq s_law_8 (sSeq s_law_9 (sSeq s_law_10 (sSeq s_law_11 (sSeq s_law_12 s_law_13))))))))))
def nx8 : Fl → Bool
  | .nx e => e.length == 8
  | _ => false
theorem nx8_ok {f : Fl} (h : nx8 f = true) : ∃ e, f = .nx e ∧ e.length = 7 + 1 := by
  cases f with
  | nx e => exact ⟨e, rfl, beq_iff_eq.mp h⟩
  | _ => cases h
theorem rest19_ok (x : Int × Int) (n : Int) (h0 : 0 ≤ n) (h1 : n < 9) : nx8 (rest19 [.emp, .own (dc x), .emp, .emp, .dat (.int (1 + n)), .dat one19, .emp, .emp]) = true := by
  have h : n = 0 ∨ n = 1 ∨ n = 2 ∨ n = 3 ∨ n = 4 ∨ n = 5 ∨ n = 6 ∨ n = 7 ∨ n = 8 := by omega
  rcases h with rfl | rfl | rfl | rfl | rfl | rfl | rfl | rfl | rfl <;> kernel_rfl
theorem round19 (c : Int) : ∃ e, r_law ((List.replicate (7 + 1) .emp).set 1 (.own (.ol [.int c, .int 0]))) = .nx e ∧ e.length = 7 + 1 := by
  obtain ⟨x, v, e2, h0, h1⟩ := roll_ok (c, 0) 9 (by decide) (by decide)
  have c1 : eFn 1 2 f_law_roll (xOwn 1 (xDat (eC (.int 9)) xNil)) [.emp, .own (dc (c, 0)), .emp, .emp, .emp, .emp, .emp, .emp] = .ok (.int v) [.emp, .own (dc x), .emp, .emp, .emp, .emp, .emp, .emp] := call2e' (m1 := eC (.int 9)) rfl e2
  have S1 : s_law_1 ((List.replicate (7 + 1) .emp).set 1 (.own (.ol [.int c, .int 0]))) = .nx [.emp, .own (dc x), .emp, .emp, .dat (.int (1 + v)), .dat one19, .emp, .emp] := by
    rw [s_law_1]
    show sAsg _ _ [.emp, .own (dc (c, 0)), .emp, .emp, .emp, .emp, .emp, .emp] = _
    generalize eFn 1 2 f_law_roll (xOwn 1 (xDat (eC (.int 9)) xNil)) = Z at c1 ⊢
    have t1 : eOp addD (eC (.int 1)) Z [.emp, .own (dc (c, 0)), .emp, .emp, .emp, .emp, .emp, .emp] = .ok (.int (1 + v)) [.emp, .own (dc x), .emp, .emp, .emp, .emp, .emp, .emp] := op_ok (m1 := eC (.int 1)) rfl c1 rfl
    generalize eOp addD (eC (.int 1)) Z = Y at t1 ⊢
    simp [v_sSeq, v_for_nil, v_for_cons, v_sFor, v_sAsg, v_gNm, v_gTu, v_gNo, v_gCo, v_sRet, v_sExp, v_sIf, v_sNil, v_sRaise, v_sBrk, v_fnD, v_eC, v_eVar, v_wVar, v_eOp, v_eUn, v_asB, v_bAnd, v_bOr, v_bNot, v_eIf, v_eAnd, v_eOr, v_eNot, v_bYes, v_aNil, v_aCons, v_eTup, v_eLst, v_oLst, v_eCall, v_eFrz, v_sOwn, v_iLst, v_iTpl, v_xNil, v_xDat, v_oLc, slotsX, callR, endF, backA, backX, wipeE, back1, t1, one19]
  obtain ⟨e, h2, h3⟩ := nx8_ok (rest19_ok x v h0 h1)
  exact ⟨e, (seq_nx S1).trans h2, h3⟩
theorem law_pure (ns : List Int) (h : ns.length ≤ 63) : f_law [.dat (.scr ns)] = .rt (.bl true) [.dat (.scr ns)] := by
  rw [f_law, v_fnD, b_law, v_sSeq]
  simp only [List.length_cons, List.length_nil, List.cons_append, List.nil_append]
  rw [sRounds_true (hi := 4) h (by decide) round19]
  simp [v_sSeq, v_for_nil, v_for_cons, v_sFor, v_sAsg, v_gNm, v_gTu, v_gNo, v_gCo, v_sRet, v_sExp, v_sIf, v_sNil, v_sRaise, v_sBrk, v_fnD, v_eC, v_eVar, v_wVar, v_eOp, v_eUn, v_asB, v_bAnd, v_bOr, v_bNot, v_eIf, v_eAnd, v_eOr, v_eNot, v_bYes, v_aNil, v_aCons, v_eTup, v_eLst, v_oLst, v_eCall, v_eFrz, v_sOwn, v_iLst, v_iTpl, v_xNil, v_xDat, v_runX, v_eFn, v_oLc, slotsX, callR, endF, backA, backX, wipeE, back1]
end LW
set_option Elab.async false
set_option linter.all false
set_option maxRecDepth 100000
set_option maxHeartbeats 0
namespace LW
open PySem PySem.Spec PyProof.Rows L2 L2H HotX LamX DL
section
variable {P : Program} {w : World} {mg : Str → Option Value} {base h : Heap} {K : PySem.W.Frag}
theorem kl_Suite (X : Fx K h mg base) : Kl (tbOf K (tabs K) w) "Suite" ["current", "budget", "texts", "history"] := ⟨_, rfl, He.cls_ok (X.c.fact 10 rfl), (List.forall_mem_cons.2 ⟨He.noat_ok (X.c.fact 9 rfl), (List.forall_mem_cons.2 ⟨He.noat_ok (X.c.fact 8 rfl), (List.forall_mem_cons.2 ⟨He.noat_ok (X.c.fact 7 rfl), (List.forall_mem_cons.2 ⟨He.noat_ok (X.c.fact 6 rfl), (fun _ h => absurd h List.not_mem_nil)⟩)⟩)⟩)⟩)⟩
theorem kl_Run (X : Fx K h mg base) : Kl (tbOf K (tabs K) w) "Run" ["machine", "text", "result"] := ⟨_, rfl, He.cls_ok (X.c.fact 45 rfl), (List.forall_mem_cons.2 ⟨He.noat_ok (X.c.fact 44 rfl), (List.forall_mem_cons.2 ⟨He.noat_ok (X.c.fact 43 rfl), (List.forall_mem_cons.2 ⟨He.noat_ok (X.c.fact 42 rfl), (fun _ h => absurd h List.not_mem_nil)⟩)⟩)⟩)⟩
theorem kl_Machine (X : Fx K h mg base) : Kl (tbOf K (tabs K) w) "Machine" ["letters", "follow", "start"] := ⟨_, rfl, He.cls_ok (X.c.fact 49 rfl), (List.forall_mem_cons.2 ⟨He.noat_ok (X.c.fact 48 rfl), (List.forall_mem_cons.2 ⟨He.noat_ok (X.c.fact 47 rfl), (List.forall_mem_cons.2 ⟨He.noat_ok (X.c.fact 46 rfl), (fun _ h => absurd h List.not_mem_nil)⟩)⟩)⟩)⟩
theorem kl_Reader (X : Fx K h mg base) : Kl (tbOf K (tabs K) w) "Reader" ["string", "at"] := ⟨_, rfl, He.cls_ok (X.c.fact 94 rfl), (List.forall_mem_cons.2 ⟨He.noat_ok (X.c.fact 93 rfl), (List.forall_mem_cons.2 ⟨He.noat_ok (X.c.fact 92 rfl), (fun _ h => absurd h List.not_mem_nil)⟩)⟩)⟩
theorem sc_law_cell : FnScope ["script", "k"] ["script", "k"] (defScope (top 68)) := ⟨rfl, rfl, rfl, by decide +kernel, rfl, by decide +kernel, by decide +kernel⟩
theorem y_law_cell (X : Fx K h mg base) {f : Addr} : Body P w (tbOf K (tabs K) w) mg base ["script", "k"] "_law_cell" (defScope (top 68)) f 0 (defBody (top 68)) b_law_cell := by
  intro cdv A outer s H E H0 F0 OA V0 hr
  have SC := sc_law_cell
  exact (ds_cons (ds_if (dt_cmp (op_eqD hr.units) ow_eq (dv 0) (de_w (de_lst da_nil)) (nomark _)) (ds_one (ds_ret (de_bin op_mulA od_mul (dv 1) de_int))) ds_nil) (ds_one (ds_ret (de_bin op_addA od_add (de_ix (dv 0) (de_bin op_mod od_mod (dv 1) (de_len (de_w (dv 0)) rfl (He.free_ok X.KX X.G (X.c.fact 0 rfl))))) (de_bin op_mulA od_mul (de_bin op_fdivW od_div (dv 1) (de_len (de_w (dv 0)) rfl (He.free_ok X.KX X.G (X.c.fact 0 rfl)))) de_int)))))
theorem c_law_cell (X : Fx K h mg base) : Cal P w (tbOf K (tabs K) w) mg base 1 "_law_cell" 2 f_law_cell := by
  obtain ⟨fd, F⟩ := X.c.def_ 0 (d := d0) rfl
  have SC := sc_law_cell
  have B : Binds K fd ["script", "k"] [] := F.bindsN fun _ _ _ _ _ _ us hl => match us, hl with | [_, _], _ => rfl
  exact cal_of F SC (He.glo_ok X.KX X.G (X.c.fact 1 rfl)) B (y_law_cell X)
theorem met_ok (X : Fx K h mg base) : MetOk (tbOf K (tabs K) w) mg exNames := by
  obtain ⟨fd, F⟩ := X.c.def_ 1 (d := d1) rfl
  have B : Binds K fd ["deed"] [] := F.bindsN fun _ _ _ _ _ _ us hl => match us, hl with | [_], _ => rfl
  refine ⟨He.ga K "StepError", _, _, _, fd, _, _, _, _, _, _, _, _, _, _, _, fun c hc C hC => ?_, (He.glo_ok X.KX X.G (X.c.fact 2 rfl)), F, (He.glo_ok X.KX X.G (X.c.fact 3 rfl)), B, ⟨rfl, rfl, rfl, by decide +kernel, rfl, by decide +kernel, by decide +kernel⟩, rfl, rfl, rfl⟩
  cases hC
  exact (exB_at X.ex hc).2.2.2
theorem sc_law_drawn : FnScope ["cell", "k", "more"] ["cell", "k"] (defScope (top 69)) := ⟨rfl, rfl, rfl, by decide +kernel, rfl, by decide +kernel, by decide +kernel⟩
theorem y_law_drawn (X : Fx K h mg base) {f : Addr} : Body P w (tbOf K (tabs K) w) mg base ["cell", "k", "more"] "_law_drawn" (defScope (top 69)) f 0 (defBody (top 69)) b_law_drawn := by
  intro cdv A outer s H E H0 F0 OA V0 hr
  have SC := sc_law_drawn
  exact (ds_cons (ds_set (i := 2) SC.nd rfl (by first | exact Or.inl rfl | exact Or.inr rfl) (de_bin op_mod od_mod (de_bin op_addA od_add (de_bin op_mulA od_mul (dv 0) de_int) (de_bin op_mulA od_mul (de_bin op_addA od_add (dv 1) de_int) de_int)) de_int)) (ds_cons (ds_set (i := 2) SC.nd rfl (by first | exact Or.inl rfl | exact Or.inr rfl) (de_bin op_mod od_mod (de_bin op_mulA od_mul (dv 2) (dv 2)) de_int)) (ds_cons (ds_set (i := 2) SC.nd rfl (by first | exact Or.inl rfl | exact Or.inr rfl) (de_bin op_mulA od_mul (de_bin op_mulA od_mul (de_bin op_addA od_add (de_bin op_mod od_mod (dv 2) de_int) de_int) (de_bin op_addA od_add (de_bin op_fdivW od_div (dv 2) de_int) de_int)) (dv 2))) (ds_one (ds_ret (de_bin op_mod od_mod (dv 2) de_int))))))
theorem c_law_drawn (X : Fx K h mg base) : Cal P w (tbOf K (tabs K) w) mg base 1 "_law_drawn" 2 f_law_drawn := by
  obtain ⟨fd, F⟩ := X.c.def_ 2 (d := d2) rfl
  have SC := sc_law_drawn
  have B : Binds K fd ["cell", "k"] [] := F.bindsN fun _ _ _ _ _ _ us hl => match us, hl with | [_, _], _ => rfl
  exact cal_of F SC (He.glo_ok X.KX X.G (X.c.fact 4 rfl)) B (y_law_drawn X)
theorem sc_law_roll : FnScope ["dice", "many", "told"] ["dice", "many"] (defScope (top 70)) := ⟨rfl, rfl, rfl, by decide +kernel, rfl, by decide +kernel, by decide +kernel⟩
theorem y_law_roll (X : Fx K h mg base) {f : Addr} : Body P w (tbOf K (tabs K) w) mg base ["dice", "many", "told"] "_law_roll" (defScope (top 70)) f 1 (defBody (top 70)) b_law_roll := by
  intro cdv A outer s H E H0 F0 OA V0 hr
  have SC := sc_law_roll
  exact (ds_cons (ds_if (dt_cmp op_ge ow_ge (de_ixV 0 (pv 0) de_int) (de_w (de_bin op_pow od_pow de_int de_int)) (nomark _)) (ds_cons (ds_set (i := 2) SC.nd rfl (by first | exact Or.inl rfl | exact Or.inr rfl) (de_bin op_mod od_mod (de_ixV 0 (pv 0) de_int) (dv 1))) (ds_cons (ds_seti (pv 0) de_int (de_bin op_fdivW od_div (de_ixV 0 (pv 0) de_int) (dv 1))) (ds_one (ds_ret (dv 2))))) ds_nil) (ds_cons (ds_seti (pv 0) de_int (de_bin op_addA od_add (de_ixV 0 (pv 0) de_int) de_int)) (ds_one (ds_ret (de_bin op_mod od_mod (de_bin op_fdivW od_div (de_fn (c_law_drawn X) (hr.mono (by decide)) (L2N.takes_of rfl rfl rfl rfl) (dx_dat (de_ixV 0 (pv 0) de_int) (dx_dat (de_ixV 0 (pv 0) de_int) dx_nil))) de_int) (dv 1))))))
theorem c_law_roll (X : Fx K h mg base) : Cal P w (tbOf K (tabs K) w) mg base 2 "_law_roll" 2 f_law_roll := by
  obtain ⟨fd, F⟩ := X.c.def_ 3 (d := d3) rfl
  have SC := sc_law_roll
  have B : Binds K fd ["dice", "many"] [] := F.bindsN fun _ _ _ _ _ _ us hl => match us, hl with | [_, _], _ => rfl
  exact cal_of F SC (He.glo_ok X.KX X.G (X.c.fact 5 rfl)) B (y_law_roll X)
theorem sc_Suite_undo_x : FnScope ["self", "word", "before"] ["self"] (defScope (mth 66 8)) := ⟨rfl, rfl, rfl, by decide +kernel, rfl, by decide +kernel, by decide +kernel⟩
theorem y_Suite_undo_x (X : Fx K h mg base) {f : Addr} : Body P w (tbOf K (tabs K) w) mg base ["self", "word", "before"] "Suite.undo" (defScope (mth 66 8)) f 0 (defBody (mth 66 8)) b_Suite_undo_x := by
  intro cdv A outer s H E H0 F0 OA V0 hr
  have SC := sc_Suite_undo_x
  exact (ds_cons (ds_if (dt_cmp (op_eqN hr.units) ow_eqN (de_fldV 0 (kl_Suite X) (List.mem_cons_of_mem _ (List.mem_cons_of_mem _ (List.mem_cons_of_mem _ List.mem_cons_self))) (pv 0)) (de_w (de_lst da_nil)) (nomark _)) (ds_one (ds_raise (xc_of X.KX X.G (X.c.fact 11 rfl) (X.c.fact 12 rfl)) rfl (L2N.takes_of rfl rfl rfl rfl))) ds_nil) ds_never)
theorem c_Suite_undo_x (X : Fx K h mg base) : CalM P w (tbOf K (tabs K) w) mg base 1 "Suite" "undo" 1 f_Suite_undo_x := by
  obtain ⟨fd, F⟩ := X.c.def_ 4 (d := d4) rfl
  have SC := sc_Suite_undo_x
  have B : Binds K fd ["self"] [] := F.bindsN fun _ _ _ _ _ _ us hl => match us, hl with | [_], _ => rfl
  exact calM_of F SC rfl (He.cls_ok (X.c.fact 10 rfl)) (He.meth_ok (X.c.fact 13 rfl)) B (y_Suite_undo_x X)
theorem sc_is_letters : FnScope ["value", "one", "other", "letter"] ["value"] (defScope (top 19)) := ⟨rfl, rfl, rfl, by decide +kernel, rfl, by decide +kernel, by decide +kernel⟩
theorem y_is_letters (X : Fx K h mg base) {f : Addr} : Body P w (tbOf K (tabs K) w) mg base ["value", "one", "other", "letter"] "is_letters" (defScope (top 19)) f 0 (defBody (top 19)) b_is_letters := by
  intro cdv A outer s H E H0 F0 OA V0 hr
  have SC := sc_is_letters
  exact (ds_cons (ds_if (PW.pt (dw_or (dt_not (dt_val (de_isi (x := "isinstance") isi_str (dv 0) rfl (He.free_ok X.KX X.G (X.c.fact 14 rfl)) rfl (He.free_ok X.KX X.G (X.c.fact 15 rfl)) (by decide +kernel)))) (dw_or (dt_not (dt_chain op_le op_le ow_le ow_le de_int (de_len (de_w (dv 0)) rfl (He.free_ok X.KX X.G (X.c.fact 0 rfl))) de_int)) (dw_or1 (dt_not (dt_val (de_callB (cr_all rfl) cd_all rfl (He.free_ok X.KX X.G (X.c.fact 17 rfl)) (by decide +kernel) (da_cons (de_frz (do_lcT (own := [("letter", 3)]) rfl SC.nd (di_str (dv 0)) (blkOk_by (by kernel_rfl)) (fun _ _ _ _ _ _ _ _ => (dg_name (i := 3) SC.nd rfl (by first | exact Or.inl rfl | exact Or.inr rfl))) (fun _ _ _ _ _ _ _ _ => dts_nil) (fun _ _ _ _ _ _ _ _ => (de_cmp (op_inA hr.u65) ow_in (dv 3) (de_w (de_gstr rfl (He.str_ok X.KX X.G (X.c.fact 16 rfl)))) (by rfl))))) da_nil)))))))) (ds_one (ds_ret de_bl)) ds_nil) (ds_one (ds_ret (de_callB (cr_all rfl) cd_all rfl (He.free_ok X.KX X.G (X.c.fact 17 rfl)) (by decide +kernel) (da_cons (de_frz (do_lcT (own := [("one", 1), ("other", 2)]) rfl SC.nd (di_zip rfl (He.free_ok X.KX X.G (X.c.fact 18 rfl)) (da_cons (dv 0) (da_cons (de_slice (dv 0) (dp_so de_int) dp_no) da_nil))) (blkOk_by (by kernel_rfl)) (fun _ _ _ _ _ _ _ _ => (dg_tup rfl (dgs_cons (dg_name (i := 1) SC.nd rfl (by first | exact Or.inl rfl | exact Or.inr rfl)) (dgs_cons (dg_name (i := 2) SC.nd rfl (by first | exact Or.inl rfl | exact Or.inr rfl)) dgs_nil)))) (fun _ _ _ _ _ _ _ _ => dts_nil) (fun _ _ _ _ _ _ _ _ => (de_cmp op_ltA ow_lt (dv 1) (de_w (dv 2)) (nomark _))))) da_nil)))))
theorem c_is_letters (X : Fx K h mg base) : Cal P w (tbOf K (tabs K) w) mg base 1 "is_letters" 1 f_is_letters := by
  obtain ⟨fd, F⟩ := X.c.def_ 5 (d := d5) rfl
  have SC := sc_is_letters
  have B : Binds K fd ["value"] [] := F.bindsN fun _ _ _ _ _ _ us hl => match us, hl with | [_], _ => rfl
  exact cal_of F SC (He.glo_ok X.KX X.G (X.c.fact 19 rfl)) B (y_is_letters X)
theorem sc_has_shape : FnScope ["value", "depth", "item"] ["value", "depth"] (defScope (top 20)) := ⟨rfl, rfl, rfl, by decide +kernel, rfl, by decide +kernel, by decide +kernel⟩
theorem y_has_shape (X : Fx K h mg base) {f : Addr} {j : Nat} {r : Fn} (R : Cal P w (tbOf K (tabs K) w) mg base (1 + j) "has_shape" 2 r) : Body P w (tbOf K (tabs K) w) mg base ["value", "depth", "item"] "has_shape" (defScope (top 20)) f (1 + j) (defBody (top 20)) (b_has_shape r) := by
  intro cdv A outer s H E H0 F0 OA V0 hr
  have SC := sc_has_shape
  exact (ds_cons (ds_if (PW.pt (dw_or (dt_cmp (op_eqD hr.units) ow_eq (dv 1) (de_w de_int) (nomark _)) (dw_or (dt_not (dt_val (de_isi (x := "isinstance") isi_tuple (dv 0) rfl (He.free_ok X.KX X.G (X.c.fact 14 rfl)) rfl (He.free_ok X.KX X.G (X.c.fact 20 rfl)) (by decide +kernel)))) (dw_or (dt_cmp (op_neD hr.units) ow_ne (de_len (de_w (dv 0)) rfl (He.free_ok X.KX X.G (X.c.fact 0 rfl))) (de_w de_int) (nomark _)) (dw_or1 (dt_not (dt_val (de_isi (x := "isinstance") isi_str (de_ix (dv 0) de_int) rfl (He.free_ok X.KX X.G (X.c.fact 14 rfl)) rfl (He.free_ok X.KX X.G (X.c.fact 15 rfl)) (by decide +kernel))))))))) (ds_one (ds_ret de_bl)) ds_nil) (ds_cons (ds_if (dt_cmp (op_eqD hr.units) ow_eq (de_ix (dv 0) de_int) (de_w de_str) (nomark _)) (ds_one (ds_ret (de_fn (c_is_letters X) (hr.mono (by omega)) (L2N.takes_of rfl rfl rfl rfl) (dx_dat (de_ix (dv 0) de_int) dx_nil)))) ds_nil) (ds_cons (ds_if (dt_cmp (op_inA hr.u65) ow_in (de_ix (dv 0) de_int) (de_w (de_tup (da_cons de_str (da_cons de_str da_nil)))) (by rfl)) (ds_cons (ds_if (PW.pt (dw_or (dt_not (dt_val (de_isi (x := "isinstance") isi_tuple (de_ix (dv 0) de_int) rfl (He.free_ok X.KX X.G (X.c.fact 14 rfl)) rfl (He.free_ok X.KX X.G (X.c.fact 20 rfl)) (by decide +kernel)))) (dw_or1 (dt_not (dt_chain op_le op_le ow_le ow_le de_int (de_len (de_w (de_ix (dv 0) de_int)) rfl (He.free_ok X.KX X.G (X.c.fact 0 rfl))) de_int))))) (ds_one (ds_ret de_bl)) ds_nil) (ds_one (ds_ret (de_callB (cr_all rfl) cd_all rfl (He.free_ok X.KX X.G (X.c.fact 17 rfl)) (by decide +kernel) (da_cons (de_frz (do_lcT (own := [("item", 2)]) rfl SC.nd (di_tup (de_ix (dv 0) de_int)) (blkOk_by (by kernel_rfl)) (fun _ _ _ _ _ _ _ _ => (dg_name (i := 2) SC.nd rfl (by first | exact Or.inl rfl | exact Or.inr rfl))) (fun _ _ _ _ _ _ _ _ => dts_nil) (fun _ _ _ _ _ _ _ _ => (de_fn R (hr.mono (by omega)) takes0N (dx_dat (dv 2) (dx_dat (de_bin op_sub od_sub (dv 1) de_int) dx_nil)))))) da_nil))))) ds_nil) (ds_one (ds_ret (de_and (de_cmp (op_inA hr.u65) ow_in (de_ix (dv 0) de_int) (de_w (de_tup (da_cons de_str (da_cons de_str da_nil)))) (by rfl)) (de_one (de_fn R (hr.mono (by omega)) (L2N.takes_of rfl rfl rfl rfl) (dx_dat (de_ix (dv 0) de_int) (dx_dat (de_bin op_sub od_sub (dv 1) de_int) dx_nil))))))))))
theorem w_has_shape (X : Fx K h mg base) (j : Nat) : Cal P w (tbOf K (tabs K) w) mg base (1 + j) "has_shape" 2 (f_has_shape j) := by
  obtain ⟨fd, F⟩ := X.c.def_ 6 (d := d6) rfl
  have SC := sc_has_shape
  have B : Binds K fd ["value", "depth"] [] := F.bindsN fun _ _ _ _ _ _ us hl => match us, hl with | [_, _], _ => rfl
  induction j with
  | zero => exact cal_no (T := tbOf K (tabs K) w) F (He.glo_ok X.KX X.G (X.c.fact 21 rfl)) B
  | succ j R => exact cal_of F SC (He.glo_ok X.KX X.G (X.c.fact 21 rfl)) B (y_has_shape X R)
theorem c_has_shape (X : Fx K h mg base) : Cal P w (tbOf K (tabs K) w) mg base 21 "has_shape" 2 (f_has_shape 20) := w_has_shape X 20
theorem sc_items_of : FnScope ["pattern"] ["pattern"] (defScope (top 21)) := ⟨rfl, rfl, rfl, by decide +kernel, rfl, by decide +kernel, by decide +kernel⟩
theorem y_items_of (X : Fx K h mg base) {f : Addr} : Body P w (tbOf K (tabs K) w) mg base ["pattern"] "items_of" (defScope (top 21)) f 0 (defBody (top 21)) b_items_of := by
  intro cdv A outer s H E H0 F0 OA V0 hr
  have SC := sc_items_of
  exact (ds_cons (ds_if (dt_cmp (op_eqD hr.units) ow_eq (de_ix (dv 0) de_int) (de_w de_str) (nomark _)) (ds_one (ds_ret (de_tup da_nil))) ds_nil) (ds_one (ds_ret (de_if (dt_cmp (op_inA hr.u65) ow_in (de_ix (dv 0) de_int) (de_w (de_tup (da_cons de_str (da_cons de_str da_nil)))) (by rfl)) (de_ix (dv 0) de_int) (de_tup (da_cons (de_ix (dv 0) de_int) da_nil))))))
theorem c_items_of (X : Fx K h mg base) : Cal P w (tbOf K (tabs K) w) mg base 1 "items_of" 1 f_items_of := by
  obtain ⟨fd, F⟩ := X.c.def_ 7 (d := d7) rfl
  have SC := sc_items_of
  have B : Binds K fd ["pattern"] [] := F.bindsN fun _ _ _ _ _ _ us hl => match us, hl with | [_], _ => rfl
  exact cal_of F SC (He.glo_ok X.KX X.G (X.c.fact 22 rfl)) B (y_items_of X)
theorem sc_nullable : FnScope ["pattern", "some", "item"] ["pattern"] (defScope (top 22)) := ⟨rfl, rfl, rfl, by decide +kernel, rfl, by decide +kernel, by decide +kernel⟩
theorem y_nullable (X : Fx K h mg base) {f : Addr} {j : Nat} {r : Fn} (R : Cal P w (tbOf K (tabs K) w) mg base (1 + j) "nullable" 1 r) : Body P w (tbOf K (tabs K) w) mg base ["pattern", "some", "item"] "nullable" (defScope (top 22)) f (1 + j) (defBody (top 22)) (b_nullable r) := by
  intro cdv A outer s H E H0 F0 OA V0 hr
  have SC := sc_nullable
  exact (ds_cons (ds_setLcT (i := 1) (own := [("item", 2)]) rfl SC.nd rfl rfl (sw_true rfl rfl rfl rfl) (di_tup (de_fn (c_items_of X) (hr.mono (by omega)) (L2N.takes_of rfl rfl rfl rfl) (dx_dat (dv 0) dx_nil))) (blkOk_by (by kernel_rfl)) (fun _ _ _ _ _ _ _ _ => (dg_name (i := 2) SC.nd rfl (by first | exact Or.inl rfl | exact Or.inr rfl))) (fun _ _ _ _ _ _ _ _ => dts_nil) (fun _ _ _ _ _ _ _ _ => (de_fn R (hr.mono (by omega)) takes0N (dx_dat (dv 2) dx_nil)))) (ds_cons (ds_if (dt_cmp (op_eqD hr.units) ow_eq (de_ix (dv 0) de_int) (de_w de_str) (nomark _)) (ds_one (ds_ret (de_callB (cr_all rfl) cd_all rfl (He.free_ok X.KX X.G (X.c.fact 17 rfl)) (by decide +kernel) (da_cons (dv 1) da_nil)))) ds_nil) (ds_one (ds_ret (de_if (dt_cmp (op_eqD hr.units) ow_eq (de_ix (dv 0) de_int) (de_w de_str) (nomark _)) (de_callB (cr_any rfl) cd_any rfl (He.free_ok X.KX X.G (X.c.fact 23 rfl)) (by decide +kernel) (da_cons (dv 1) da_nil)) (de_cmp (op_inA hr.u65) ow_in (de_ix (dv 0) de_int) (de_w (de_tup (da_cons de_str (da_cons de_str da_nil)))) (by rfl)))))))
theorem w_nullable (X : Fx K h mg base) (j : Nat) : Cal P w (tbOf K (tabs K) w) mg base (1 + j) "nullable" 1 (f_nullable j) := by
  obtain ⟨fd, F⟩ := X.c.def_ 8 (d := d8) rfl
  have SC := sc_nullable
  have B : Binds K fd ["pattern"] [] := F.bindsN fun _ _ _ _ _ _ us hl => match us, hl with | [_], _ => rfl
  induction j with
  | zero => exact cal_no (T := tbOf K (tabs K) w) F (He.glo_ok X.KX X.G (X.c.fact 24 rfl)) B
  | succ j R => exact cal_of F SC (He.glo_ok X.KX X.G (X.c.fact 24 rfl)) B (y_nullable X R)
theorem c_nullable (X : Fx K h mg base) : Cal P w (tbOf K (tabs K) w) mg base 21 "nullable" 1 (f_nullable 20) := w_nullable X 20
theorem sc_stars_are_good : FnScope ["pattern", "item"] ["pattern"] (defScope (top 25)) := ⟨rfl, rfl, rfl, by decide +kernel, rfl, by decide +kernel, by decide +kernel⟩
theorem y_stars_are_good (X : Fx K h mg base) {f : Addr} {j : Nat} {r : Fn} (R : Cal P w (tbOf K (tabs K) w) mg base (22 + j) "stars_are_good" 1 r) : Body P w (tbOf K (tabs K) w) mg base ["pattern", "item"] "stars_are_good" (defScope (top 25)) f (22 + j) (defBody (top 25)) (b_stars_are_good r) := by
  intro cdv A outer s H E H0 F0 OA V0 hr
  have SC := sc_stars_are_good
  exact (ds_cons (ds_if (PW.pt (dw_and (dt_cmp (op_eqD hr.units) ow_eq (de_ix (dv 0) de_int) (de_w de_str) (nomark _)) (dw_and1 (dt_val (de_fn (c_nullable X) (hr.mono (by omega)) (L2N.takes_of rfl rfl rfl rfl) (dx_dat (de_ix (dv 0) de_int) dx_nil)))))) (ds_one (ds_ret de_bl)) ds_nil) (ds_one (ds_ret (de_callB (cr_all rfl) cd_all rfl (He.free_ok X.KX X.G (X.c.fact 17 rfl)) (by decide +kernel) (da_cons (de_frz (do_lcT (own := [("item", 1)]) rfl SC.nd (di_tup (de_fn (c_items_of X) (hr.mono (by omega)) (L2N.takes_of rfl rfl rfl rfl) (dx_dat (dv 0) dx_nil))) (blkOk_by (by kernel_rfl)) (fun _ _ _ _ _ _ _ _ => (dg_name (i := 1) SC.nd rfl (by first | exact Or.inl rfl | exact Or.inr rfl))) (fun _ _ _ _ _ _ _ _ => dts_nil) (fun _ _ _ _ _ _ _ _ => (de_fn R (hr.mono (by omega)) takes0N (dx_dat (dv 1) dx_nil))))) da_nil)))))
theorem w_stars_are_good (X : Fx K h mg base) (j : Nat) : Cal P w (tbOf K (tabs K) w) mg base (22 + j) "stars_are_good" 1 (f_stars_are_good j) := by
  obtain ⟨fd, F⟩ := X.c.def_ 9 (d := d9) rfl
  have SC := sc_stars_are_good
  have B : Binds K fd ["pattern"] [] := F.bindsN fun _ _ _ _ _ _ us hl => match us, hl with | [_], _ => rfl
  induction j with
  | zero => exact cal_no (T := tbOf K (tabs K) w) F (He.glo_ok X.KX X.G (X.c.fact 25 rfl)) B
  | succ j R => exact cal_of F SC (He.glo_ok X.KX X.G (X.c.fact 25 rfl)) B (y_stars_are_good X R)
theorem c_stars_are_good (X : Fx K h mg base) : Cal P w (tbOf K (tabs K) w) mg base 42 "stars_are_good" 1 (f_stars_are_good 20) := w_stars_are_good X 20
theorem sc_node_count : FnScope ["pattern", "item"] ["pattern"] (defScope (top 24)) := ⟨rfl, rfl, rfl, by decide +kernel, rfl, by decide +kernel, by decide +kernel⟩
theorem y_node_count (X : Fx K h mg base) {f : Addr} {j : Nat} {r : Fn} (R : Cal P w (tbOf K (tabs K) w) mg base (1 + j) "node_count" 1 r) : Body P w (tbOf K (tabs K) w) mg base ["pattern", "item"] "node_count" (defScope (top 24)) f (1 + j) (defBody (top 24)) (b_node_count r) := by
  intro cdv A outer s H E H0 F0 OA V0 hr
  have SC := sc_node_count
  exact (ds_one (ds_ret (de_bin op_addA od_add de_int (de_callB (cr_sum rfl) cd_sum rfl (He.free_ok X.KX X.G (X.c.fact 26 rfl)) (by decide +kernel) (da_cons (de_frz (do_lcT (own := [("item", 1)]) rfl SC.nd (di_tup (de_fn (c_items_of X) (hr.mono (by omega)) (L2N.takes_of rfl rfl rfl rfl) (dx_dat (dv 0) dx_nil))) (blkOk_by (by kernel_rfl)) (fun _ _ _ _ _ _ _ _ => (dg_name (i := 1) SC.nd rfl (by first | exact Or.inl rfl | exact Or.inr rfl))) (fun _ _ _ _ _ _ _ _ => dts_nil) (fun _ _ _ _ _ _ _ _ => (de_fn R (hr.mono (by omega)) takes0N (dx_dat (dv 1) dx_nil))))) da_nil)))))
theorem w_node_count (X : Fx K h mg base) (j : Nat) : Cal P w (tbOf K (tabs K) w) mg base (1 + j) "node_count" 1 (f_node_count j) := by
  obtain ⟨fd, F⟩ := X.c.def_ 10 (d := d10) rfl
  have SC := sc_node_count
  have B : Binds K fd ["pattern"] [] := F.bindsN fun _ _ _ _ _ _ us hl => match us, hl with | [_], _ => rfl
  induction j with
  | zero => exact cal_no (T := tbOf K (tabs K) w) F (He.glo_ok X.KX X.G (X.c.fact 27 rfl)) B
  | succ j R => exact cal_of F SC (He.glo_ok X.KX X.G (X.c.fact 27 rfl)) B (y_node_count X R)
theorem c_node_count (X : Fx K h mg base) : Cal P w (tbOf K (tabs K) w) mg base 21 "node_count" 1 (f_node_count 20) := w_node_count X 20
theorem sc_all_sets : FnScope ["pattern", "found", "item"] ["pattern"] (defScope (top 23)) := ⟨rfl, rfl, rfl, by decide +kernel, rfl, by decide +kernel, by decide +kernel⟩
theorem y_all_sets (X : Fx K h mg base) {f : Addr} {j : Nat} {r : Fn} (R : Cal P w (tbOf K (tabs K) w) mg base (1 + j) "all_sets" 1 r) : Body P w (tbOf K (tabs K) w) mg base ["pattern", "found", "item"] "all_sets" (defScope (top 23)) f (1 + j) (defBody (top 23)) (b_all_sets r) := by
  intro cdv A outer s H E H0 F0 OA V0 hr
  have SC := sc_all_sets
  exact (ds_cons (ds_if (dt_cmp (op_eqD hr.units) ow_eq (de_ix (dv 0) de_int) (de_w de_str) (nomark _)) (ds_one (ds_ret (de_tup (da_cons (de_ix (dv 0) de_int) da_nil)))) ds_nil) (ds_cons (ds_set (i := 1) SC.nd rfl (by first | exact Or.inl rfl | exact Or.inr rfl) (de_tup da_nil)) (ds_cons (ds_for PassesOwn.leaving rfl (di_tup (de_fn (c_items_of X) (hr.mono (by omega)) (L2N.takes_of rfl rfl rfl rfl) (dx_dat (dv 0) dx_nil))) (dg_name (i := 2) SC.nd rfl (by first | exact Or.inl rfl | exact Or.inr rfl)) (ds_one (ds_set (i := 1) SC.nd rfl (by first | exact Or.inl rfl | exact Or.inr rfl) (de_bin op_addA od_add (dv 1) (de_fn R (hr.mono (by omega)) (L2N.takes_of rfl rfl rfl rfl) (dx_dat (dv 2) dx_nil)))))) (ds_one (ds_ret (dv 1))))))
theorem w_all_sets (X : Fx K h mg base) (j : Nat) : Cal P w (tbOf K (tabs K) w) mg base (1 + j) "all_sets" 1 (f_all_sets j) := by
  obtain ⟨fd, F⟩ := X.c.def_ 11 (d := d11) rfl
  have SC := sc_all_sets
  have B : Binds K fd ["pattern"] [] := F.bindsN fun _ _ _ _ _ _ us hl => match us, hl with | [_], _ => rfl
  induction j with
  | zero => exact cal_no (T := tbOf K (tabs K) w) F (He.glo_ok X.KX X.G (X.c.fact 28 rfl)) B
  | succ j R => exact cal_of F SC (He.glo_ok X.KX X.G (X.c.fact 28 rfl)) B (y_all_sets X R)
theorem c_all_sets (X : Fx K h mg base) : Cal P w (tbOf K (tabs K) w) mg base 21 "all_sets" 1 (f_all_sets 20) := w_all_sets X 20
theorem sc_is_pattern : FnScope ["value"] ["value"] (defScope (top 26)) := ⟨rfl, rfl, rfl, by decide +kernel, rfl, by decide +kernel, by decide +kernel⟩
theorem y_is_pattern (X : Fx K h mg base) {f : Addr} : Body P w (tbOf K (tabs K) w) mg base ["value"] "is_pattern" (defScope (top 26)) f 43 (defBody (top 26)) b_is_pattern := by
  intro cdv A outer s H E H0 F0 OA V0 hr
  have SC := sc_is_pattern
  exact (ds_cons (ds_if (dt_not (dt_val (de_fn (c_has_shape X) (hr.mono (by decide)) (L2N.takes_of rfl rfl rfl rfl) (dx_dat (dv 0) (dx_dat (de_bin op_addA od_add (de_gint rfl (He.int_ok X.KX X.G (X.c.fact 29 rfl))) de_int) dx_nil))))) (ds_one (ds_ret de_bl)) ds_nil) (ds_one (ds_ret (de_and (de_cmp op_le ow_le (de_fn (c_node_count X) (hr.mono (by decide)) (L2N.takes_of rfl rfl rfl rfl) (dx_dat (dv 0) dx_nil)) (de_w (de_gint rfl (He.int_ok X.KX X.G (X.c.fact 29 rfl)))) (nomark _)) (de_and (de_cmp op_le ow_le (de_len (de_w (de_fn (c_all_sets X) (hr.mono (by decide)) (L2N.takes_of rfl rfl rfl rfl) (dx_dat (dv 0) dx_nil))) rfl (He.free_ok X.KX X.G (X.c.fact 0 rfl))) (de_w (de_gint rfl (He.int_ok X.KX X.G (X.c.fact 30 rfl)))) (nomark _)) (de_one (de_fn (c_stars_are_good X) (hr.mono (by decide)) (L2N.takes_of rfl rfl rfl rfl) (dx_dat (dv 0) dx_nil))))))))
theorem c_is_pattern (X : Fx K h mg base) : Cal P w (tbOf K (tabs K) w) mg base 44 "is_pattern" 1 f_is_pattern := by
  obtain ⟨fd, F⟩ := X.c.def_ 12 (d := d12) rfl
  have SC := sc_is_pattern
  have B : Binds K fd ["value"] [] := F.bindsN fun _ _ _ _ _ _ us hl => match us, hl with | [_], _ => rfl
  exact cal_of F SC (He.glo_ok X.KX X.G (X.c.fact 31 rfl)) B (y_is_pattern X)
theorem sc_check_pattern : FnScope ["pattern"] ["pattern"] (defScope (top 27)) := ⟨rfl, rfl, rfl, by decide +kernel, rfl, by decide +kernel, by decide +kernel⟩
theorem y_check_pattern (X : Fx K h mg base) {f : Addr} : Body P w (tbOf K (tabs K) w) mg base ["pattern"] "check_pattern" (defScope (top 27)) f 44 (defBody (top 27)) b_check_pattern := by
  intro cdv A outer s H E H0 F0 OA V0 hr
  have SC := sc_check_pattern
  exact (ds_one (ds_if (dt_not (dt_val (de_fn (c_is_pattern X) (hr.mono (by decide)) (L2N.takes_of rfl rfl rfl rfl) (dx_dat (dv 0) dx_nil)))) (ds_one (ds_raise (xc_of X.KX X.G (X.c.fact 32 rfl) (X.c.fact 33 rfl)) rfl (L2N.takes_of rfl rfl rfl rfl))) ds_nil))
theorem c_check_pattern (X : Fx K h mg base) : Cal P w (tbOf K (tabs K) w) mg base 45 "check_pattern" 1 f_check_pattern := by
  obtain ⟨fd, F⟩ := X.c.def_ 13 (d := d13) rfl
  have SC := sc_check_pattern
  have B : Binds K fd ["pattern"] [] := F.bindsN fun _ _ _ _ _ _ us hl => match us, hl with | [_], _ => rfl
  exact cal_of F SC (He.glo_ok X.KX X.G (X.c.fact 34 rfl)) B (y_check_pattern X)
theorem sc_growth_x : FnScope ["pattern", "graph", "degree"] ["pattern"] (defScope (top 34)) := ⟨rfl, rfl, rfl, by decide +kernel, rfl, by decide +kernel, by decide +kernel⟩
theorem y_growth_x (X : Fx K h mg base) {f : Addr} : Body P w (tbOf K (tabs K) w) mg base ["pattern", "graph", "degree"] "growth" (defScope (top 34)) f 45 (defBody (top 34)) b_growth_x := by
  intro cdv A outer s H E H0 F0 OA V0 hr
  have SC := sc_growth_x
  exact (ds_cons (ds_exp (de_fn (c_check_pattern X) (hr.mono (by decide)) (L2N.takes_of rfl rfl rfl rfl) (dx_dat (dv 0) dx_nil))) ds_never)
theorem c_growth_x (X : Fx K h mg base) : Cal P w (tbOf K (tabs K) w) mg base 46 "growth" 1 f_growth_x := by
  obtain ⟨fd, F⟩ := X.c.def_ 14 (d := d14) rfl
  have SC := sc_growth_x
  have B : Binds K fd ["pattern"] [] := F.bindsN fun _ _ _ _ _ _ us hl => match us, hl with | [_], _ => rfl
  exact cal_of F SC (He.glo_ok X.KX X.G (X.c.fact 35 rfl)) B (y_growth_x X)
theorem sc_is_text : FnScope ["value", "most", "sign"] ["value", "most"] (defScope (top 40)) := ⟨rfl, rfl, rfl, by decide +kernel, rfl, by decide +kernel, by decide +kernel⟩
theorem y_is_text (X : Fx K h mg base) {f : Addr} : Body P w (tbOf K (tabs K) w) mg base ["value", "most", "sign"] "is_text" (defScope (top 40)) f 0 (defBody (top 40)) b_is_text := by
  intro cdv A outer s H E H0 F0 OA V0 hr
  have SC := sc_is_text
  exact (ds_one (ds_ret (de_and (de_isi (x := "isinstance") isi_str (dv 0) rfl (He.free_ok X.KX X.G (X.c.fact 14 rfl)) rfl (He.free_ok X.KX X.G (X.c.fact 15 rfl)) (by decide +kernel)) (de_and (de_cmp op_le ow_le (de_len (de_w (dv 0)) rfl (He.free_ok X.KX X.G (X.c.fact 0 rfl))) (de_w (dv 1)) (nomark _)) (de_one (de_callB (cr_all rfl) cd_all rfl (He.free_ok X.KX X.G (X.c.fact 17 rfl)) (by decide +kernel) (da_cons (de_frz (do_lcT (own := [("sign", 2)]) rfl SC.nd (di_str (dv 0)) (blkOk_by (by kernel_rfl)) (fun _ _ _ _ _ _ _ _ => (dg_name (i := 2) SC.nd rfl (by first | exact Or.inl rfl | exact Or.inr rfl))) (fun _ _ _ _ _ _ _ _ => dts_nil) (fun _ _ _ _ _ _ _ _ => (de_cmp (op_inA hr.u65) ow_in (dv 2) (de_w (de_gstr rfl (He.str_ok X.KX X.G (X.c.fact 36 rfl)))) (by rfl))))) da_nil)))))))
theorem c_is_text (X : Fx K h mg base) : Cal P w (tbOf K (tabs K) w) mg base 1 "is_text" 2 f_is_text := by
  obtain ⟨fd, F⟩ := X.c.def_ 15 (d := d15) rfl
  have SC := sc_is_text
  have B : Binds K fd ["value", "most"] [] := F.bindsN fun _ _ _ _ _ _ us hl => match us, hl with | [_, _], _ => rfl
  exact cal_of F SC (He.glo_ok X.KX X.G (X.c.fact 37 rfl)) B (y_is_text X)
theorem sc_check_text : FnScope ["text", "most"] ["text", "most"] (defScope (top 42)) := ⟨rfl, rfl, rfl, by decide +kernel, rfl, by decide +kernel, by decide +kernel⟩
theorem y_check_text (X : Fx K h mg base) {f : Addr} : Body P w (tbOf K (tabs K) w) mg base ["text", "most"] "check_text" (defScope (top 42)) f 1 (defBody (top 42)) b_check_text := by
  intro cdv A outer s H E H0 F0 OA V0 hr
  have SC := sc_check_text
  exact (ds_one (ds_if (dt_not (dt_val (de_fn (c_is_text X) (hr.mono (by decide)) (L2N.takes_of rfl rfl rfl rfl) (dx_dat (dv 0) (dx_dat (dv 1) dx_nil))))) (ds_one (ds_raise (xc_of X.KX X.G (X.c.fact 38 rfl) (X.c.fact 39 rfl)) rfl (L2N.takes_of rfl rfl rfl rfl))) ds_nil))
theorem c_check_text (X : Fx K h mg base) : Cal P w (tbOf K (tabs K) w) mg base 2 "check_text" 2 f_check_text := by
  obtain ⟨fd, F⟩ := X.c.def_ 16 (d := d16) rfl
  have SC := sc_check_text
  have B : Binds K fd ["text", "most"] [] := F.bindsN fun _ _ _ _ _ _ us hl => match us, hl with | [_, _], _ => rfl
  exact cal_of F SC (He.glo_ok X.KX X.G (X.c.fact 40 rfl)) B (y_check_text X)
theorem sc_Run_tried : FnScope ["self", "choices", "index", "later", "total", "choice", "success", "more"] ["self", "choices", "index", "later"] (defScope (mth 43 1)) := ⟨rfl, rfl, rfl, by decide +kernel, rfl, by decide +kernel, by decide +kernel⟩
theorem y_Run_tried (X : Fx K h mg base) {f : Addr} : Body P w (tbOf K (tabs K) w) mg base ["self", "choices", "index", "later", "total", "choice", "success", "more"] "Run.tried" (defScope (mth 43 1)) f 0 (defBody (mth 43 1)) b_Run_tried := by
  intro cdv A outer s H E H0 F0 OA V0 hr
  have SC := sc_Run_tried
  exact (ds_cons (ds_set (i := 4) SC.nd rfl (by first | exact Or.inl rfl | exact Or.inr rfl) de_int) (ds_cons (ds_for PassesOwn.leaving rfl (di_list (dv 1)) (dg_name (i := 5) SC.nd rfl (by first | exact Or.inl rfl | exact Or.inr rfl)) (ds_one (ds_if (dt_cmp (op_eqD hr.units) ow_eq (dv 5) (de_w (de_gint rfl (He.int_ok X.KX X.G (X.c.fact 41 rfl)))) (nomark _)) (ds_one (ds_if (dt_cmp (op_eqD hr.units) ow_eq (dv 2) (de_w (de_len (de_w (de_fldV 0 (kl_Run X) (List.mem_cons_of_mem _ List.mem_cons_self) (pv 0))) rfl (He.free_ok X.KX X.G (X.c.fact 0 rfl)))) (nomark _)) (ds_one (ds_ret (de_tup (da_cons de_bl (da_cons (dv 4) da_nil))))) ds_nil)) (ds_cons (ds_set (i := 4) SC.nd rfl (by first | exact Or.inl rfl | exact Or.inr rfl) (de_bin op_addA od_add (dv 4) de_int)) (ds_one (ds_if (PW.pt (dw_and (dt_cmp op_ltA ow_lt (dv 2) (de_w (de_len (de_w (de_fldV 0 (kl_Run X) (List.mem_cons_of_mem _ List.mem_cons_self) (pv 0))) rfl (He.free_ok X.KX X.G (X.c.fact 0 rfl)))) (nomark _)) (dw_and1 (dt_cmp (op_inA hr.u65) ow_in (de_ix (de_fldV 0 (kl_Run X) (List.mem_cons_of_mem _ List.mem_cons_self) (pv 0)) (dv 2)) (de_w (de_ix (de_fld (kl_Machine X) List.mem_cons_self (de_fldV 0 (kl_Run X) List.mem_cons_self (pv 0))) (dv 5))) (by rfl))))) (ds_cons (ds_asg (de_ix (dv 3) (dv 5)) (dg_tup rfl (dgs_cons (dg_name (i := 6) SC.nd rfl (by first | exact Or.inl rfl | exact Or.inr rfl)) (dgs_cons (dg_name (i := 7) SC.nd rfl (by first | exact Or.inl rfl | exact Or.inr rfl)) dgs_nil)))) (ds_cons (ds_set (i := 4) SC.nd rfl (by first | exact Or.inl rfl | exact Or.inr rfl) (de_bin op_addA od_add (dv 4) (dv 7))) (ds_one (ds_if (dt_val (dv 6)) (ds_one (ds_ret (de_tup (da_cons de_bl (da_cons (dv 4) da_nil))))) ds_nil)))) ds_nil)))))) (ds_one (ds_ret (de_tup (da_cons de_bl (da_cons (dv 4) da_nil)))))))
theorem c_Run_tried (X : Fx K h mg base) : CalM P w (tbOf K (tabs K) w) mg base 1 "Run" "tried" 4 f_Run_tried := by
  obtain ⟨fd, F⟩ := X.c.def_ 17 (d := d17) rfl
  have SC := sc_Run_tried
  have B : Binds K fd ["self", "choices", "index", "later"] [] := F.bindsN fun _ _ _ _ _ _ us hl => match us, hl with | [_, _, _, _], _ => rfl
  exact calM_of F SC rfl (He.cls_ok (X.c.fact 45 rfl)) (He.meth_ok (X.c.fact 50 rfl)) B (y_Run_tried X)
theorem sc_Run_init : FnScope ["self", "machine", "text", "later", "index", "choices"] ["self", "machine", "text"] (defScope (mth 43 0)) := ⟨rfl, rfl, rfl, by decide +kernel, rfl, by decide +kernel, by decide +kernel⟩
theorem y_Run_init (X : Fx K h mg base) {f : Addr} : Body P w (tbOf K (tabs K) w) mg base ["self", "machine", "text", "later", "index", "choices"] "Run.__init__" (defScope (mth 43 0)) f 1 (defBody (mth 43 0)) b_Run_init := by
  intro cdv A outer s H E H0 F0 OA V0 hr
  have SC := sc_Run_init
  exact (ds_cons (ds_fld (kl_Run X) List.mem_cons_self (pv 0) (dv 1)) (ds_cons (ds_fld (kl_Run X) (List.mem_cons_of_mem _ List.mem_cons_self) (pv 0) (dv 2)) (ds_cons (ds_set (i := 3) SC.nd rfl (by first | exact Or.inl rfl | exact Or.inr rfl) (de_lst da_nil)) (ds_cons (ds_for PassesOwn.leaving rfl (di_range3 rfl (He.free_ok X.KX X.G (X.c.fact 51 rfl)) (da_cons (de_len (de_w (dv 2)) rfl (He.free_ok X.KX X.G (X.c.fact 0 rfl))) (da_cons (de_un un_neg ud_neg de_int) (da_cons (de_un un_neg ud_neg de_int) da_nil)))) (dg_name (i := 4) SC.nd rfl (by first | exact Or.inl rfl | exact Or.inr rfl)) (ds_one (ds_own (i := 3) SC.nd rfl (by first | exact Or.inl rfl | exact Or.inr rfl) (do_lcT (own := [("choices", 5)]) rfl SC.nd (di_list (de_bin op_addA od_add (de_fldV 1 (kl_Machine X) (List.mem_cons_of_mem _ List.mem_cons_self) (pv 1)) (de_lst (da_cons (de_fldV 1 (kl_Machine X) (List.mem_cons_of_mem _ (List.mem_cons_of_mem _ List.mem_cons_self)) (pv 1)) da_nil)))) (blkOk_by (by kernel_rfl)) (fun _ _ _ _ _ _ _ _ => (dg_name (i := 5) SC.nd rfl (by first | exact Or.inl rfl | exact Or.inr rfl))) (fun _ _ _ _ _ _ _ _ => dts_nil) (fun _ _ _ _ _ _ _ _ => (de_meO (c_Run_tried X) (hr.mono (by decide)) takes0N (pv 0) (dx_dat (dv 5) (dx_dat (dv 4) (dx_dat (dv 3) dx_nil))))))))) (ds_one (ds_fld (kl_Run X) (List.mem_cons_of_mem _ (List.mem_cons_of_mem _ List.mem_cons_self)) (pv 0) (de_ix (dv 3) (de_un un_neg ud_neg de_int))))))))
theorem c_Run_init (X : Fx K h mg base) : CalC P w (tbOf K (tabs K) w) mg base 2 "Run" 3 f_Run_init := by
  obtain ⟨fd, F⟩ := X.c.def_ 18 (d := d18) rfl
  have SC := sc_Run_init
  have B : Binds K fd ["self", "machine", "text"] [] := F.bindsN fun _ _ _ _ _ _ us hl => match us, hl with | [_, _, _], _ => rfl
  exact calC_of F SC rfl (He.glo_ok X.KX X.G (X.c.fact 52 rfl)) (He.mkr_ok (X.c.fact 53 rfl)) B (y_Run_init X)
theorem sc_Machine_firsts : FnScope ["self", "pattern", "first", "found", "item"] ["self", "pattern", "first"] (defScope (mth 28 2)) := ⟨rfl, rfl, rfl, by decide +kernel, rfl, by decide +kernel, by decide +kernel⟩
theorem y_Machine_firsts (X : Fx K h mg base) {f : Addr} : Body P w (tbOf K (tabs K) w) mg base ["self", "pattern", "first", "found", "item"] "Machine.firsts" (defScope (mth 28 2)) f 22 (defBody (mth 28 2)) b_Machine_firsts := by
  intro cdv A outer s H E H0 F0 OA V0 hr
  have SC := sc_Machine_firsts
  exact (ds_cons (ds_own (i := 3) SC.nd rfl (by first | exact Or.inl rfl | exact Or.inr rfl) (do_lst da_nil)) (ds_cons (ds_for PassesOwn.leaving rfl (di_tup (de_fn (c_items_of X) (hr.mono (by decide)) (L2N.takes_of rfl rfl rfl rfl) (dx_dat (dv 1) dx_nil))) (dg_name (i := 4) SC.nd rfl (by first | exact Or.inl rfl | exact Or.inr rfl)) (ds_cons (ds_exp (de_app (pv 3) (dv 2))) (ds_one (ds_set (i := 2) SC.nd rfl (by first | exact Or.inl rfl | exact Or.inr rfl) (de_bin op_addA od_add (dv 2) (de_len (de_w (de_fn (c_all_sets X) (hr.mono (by decide)) (L2N.takes_of rfl rfl rfl rfl) (dx_dat (dv 4) dx_nil))) rfl (He.free_ok X.KX X.G (X.c.fact 0 rfl)))))))) (ds_one (ds_ret (dv 3)))))
theorem c_Machine_firsts (X : Fx K h mg base) : CalM P w (tbOf K (tabs K) w) mg base 23 "Machine" "firsts" 3 f_Machine_firsts := by
  obtain ⟨fd, F⟩ := X.c.def_ 19 (d := d19) rfl
  have SC := sc_Machine_firsts
  have B : Binds K fd ["self", "pattern", "first"] [] := F.bindsN fun _ _ _ _ _ _ us hl => match us, hl with | [_, _, _], _ => rfl
  exact calM_of F SC rfl (He.cls_ok (X.c.fact 49 rfl)) (He.meth_ok (X.c.fact 54 rfl)) B (y_Machine_firsts X)
theorem sc_Machine_choices : FnScope ["self", "pattern", "first", "rest", "firsts", "found", "item", "own"] ["self", "pattern", "first", "rest"] (defScope (mth 28 1)) := ⟨rfl, rfl, rfl, by decide +kernel, rfl, by decide +kernel, by decide +kernel⟩
theorem y_Machine_choices (X : Fx K h mg base) {f : Addr} {j : Nat} {r : Fn} (R : CalM P w (tbOf K (tabs K) w) mg base (23 + j) "Machine" "choices" 4 r) : Body P w (tbOf K (tabs K) w) mg base ["self", "pattern", "first", "rest", "firsts", "found", "item", "own"] "Machine.choices" (defScope (mth 28 1)) f (23 + j) (defBody (mth 28 1)) (b_Machine_choices r) := by
  intro cdv A outer s H E H0 F0 OA V0 hr
  have SC := sc_Machine_choices
  exact (ds_cons (ds_if (dt_cmp (op_eqD hr.units) ow_eq (de_ix (dv 1) de_int) (de_w de_str) (nomark _)) (ds_one (ds_ret (de_lst (da_cons (dv 2) da_nil)))) ds_nil) (ds_cons (ds_if (dt_cmp (op_eqD hr.units) ow_eq (de_ix (dv 1) de_int) (de_w de_str) (nomark _)) (ds_one (ds_ret (de_bin op_addA od_add (de_meO R (hr.mono (by omega)) (L2N.takes_of rfl rfl rfl rfl) (pv 0) (dx_dat (de_ix (dv 1) de_int) (dx_dat (dv 2) (dx_dat (de_lst da_nil) dx_nil)))) (dv 3)))) ds_nil) (ds_cons (ds_if (dt_cmp (op_eqD hr.units) ow_eq (de_ix (dv 1) de_int) (de_w de_str) (nomark _)) (ds_one (ds_ret (de_bin op_addA od_add (de_meO R (hr.mono (by omega)) (L2N.takes_of rfl rfl rfl rfl) (pv 0) (dx_dat (de_ix (dv 1) de_int) (dx_dat (dv 2) (dx_dat (dv 3) dx_nil)))) (dv 3)))) ds_nil) (ds_cons (ds_par (i := 4) (j := 5) rfl SC.nd rfl rfl (by decide) rfl rfl (da_cons (de_meO (c_Machine_firsts X) (hr.mono (by omega)) (L2N.takes_of rfl rfl rfl rfl) (pv 0) (dx_dat (dv 1) (dx_dat (dv 2) dx_nil))) (da_cons (de_lst da_nil) da_nil))) (ds_cons (ds_if (dt_cmp (op_eqD hr.units) ow_eq (de_ix (dv 1) de_int) (de_w de_str) (nomark _)) (ds_cons (ds_for PassesOwn.leaving rfl (di_zip rfl (He.free_ok X.KX X.G (X.c.fact 18 rfl)) (da_cons (de_ix (dv 1) de_int) (da_cons (dv 4) da_nil))) (dg_tup rfl (dgs_cons (dg_name (i := 6) SC.nd rfl (by first | exact Or.inl rfl | exact Or.inr rfl)) (dgs_cons (dg_name (i := 7) SC.nd rfl (by first | exact Or.inl rfl | exact Or.inr rfl)) dgs_nil))) (ds_one (ds_set (i := 5) SC.nd rfl (by first | exact Or.inl rfl | exact Or.inr rfl) (de_bin op_addA od_add (dv 5) (de_meO R (hr.mono (by omega)) (L2N.takes_of rfl rfl rfl rfl) (pv 0) (dx_dat (dv 6) (dx_dat (dv 7) (dx_dat (dv 3) dx_nil)))))))) (ds_one (ds_ret (dv 5)))) ds_nil) (ds_cons (ds_for PassesOwn.leaving rfl (di_list (de_rev (de_listzip rfl rfl (He.free_ok X.KX X.G (X.c.fact 55 rfl)) rfl (He.free_ok X.KX X.G (X.c.fact 18 rfl)) (da_cons (de_ix (dv 1) de_int) (da_cons (dv 4) da_nil))))) (dg_tup rfl (dgs_cons (dg_name (i := 6) SC.nd rfl (by first | exact Or.inl rfl | exact Or.inr rfl)) (dgs_cons (dg_name (i := 7) SC.nd rfl (by first | exact Or.inl rfl | exact Or.inr rfl)) dgs_nil))) (ds_one (ds_set (i := 3) SC.nd rfl (by first | exact Or.inl rfl | exact Or.inr rfl) (de_meO R (hr.mono (by omega)) (L2N.takes_of rfl rfl rfl rfl) (pv 0) (dx_dat (dv 6) (dx_dat (dv 7) (dx_dat (dv 3) dx_nil))))))) (ds_one (ds_ret (dv 3)))))))))
theorem w_Machine_choices (X : Fx K h mg base) (j : Nat) : CalM P w (tbOf K (tabs K) w) mg base (23 + j) "Machine" "choices" 4 (f_Machine_choices j) := by
  obtain ⟨fd, F⟩ := X.c.def_ 20 (d := d20) rfl
  have SC := sc_Machine_choices
  have B : Binds K fd ["self", "pattern", "first", "rest"] [] := F.bindsN fun _ _ _ _ _ _ us hl => match us, hl with | [_, _, _, _], _ => rfl
  induction j with
  | zero => exact calM_no (T := tbOf K (tabs K) w) F rfl (He.cls_ok (X.c.fact 49 rfl)) (He.meth_ok (X.c.fact 56 rfl)) B
  | succ j R => exact calM_of F SC rfl (He.cls_ok (X.c.fact 49 rfl)) (He.meth_ok (X.c.fact 56 rfl)) B (y_Machine_choices X R)
theorem c_Machine_choices (X : Fx K h mg base) : CalM P w (tbOf K (tabs K) w) mg base 43 "Machine" "choices" 4 (f_Machine_choices 20) := w_Machine_choices X 20
theorem sc_Machine_assign : FnScope ["self", "pattern", "first", "rest", "item", "own"] ["self", "pattern", "first", "rest"] (defScope (mth 28 3)) := ⟨rfl, rfl, rfl, by decide +kernel, rfl, by decide +kernel, by decide +kernel⟩
theorem y_Machine_assign (X : Fx K h mg base) {f : Addr} {j : Nat} {r : Fn} (R : CalM P w (tbOf K (tabs K) w) mg base (44 + j) "Machine" "assign" 4 r) : Body P w (tbOf K (tabs K) w) mg base ["self", "pattern", "first", "rest", "item", "own"] "Machine.assign" (defScope (mth 28 3)) f (44 + j) (defBody (mth 28 3)) (b_Machine_assign r) := by
  intro cdv A outer s H E H0 F0 OA V0 hr
  have SC := sc_Machine_assign
  exact (ds_one (ds_if (dt_cmp (op_eqD hr.units) ow_eq (de_ix (dv 1) de_int) (de_w de_str) (nomark _)) (ds_one (ds_setF (kl_Machine X) (List.mem_cons_of_mem _ List.mem_cons_self) (pv 0) (dq_pv 2 (pv 2)) (de_callTy call_list_of cd_list rfl (He.free_ok X.KX X.G (X.c.fact 55 rfl)) (by decide +kernel) (da_cons (dv 3) da_nil)))) (ds_one (ds_if (dt_cmp (op_eqD hr.units) ow_eq (de_ix (dv 1) de_int) (de_w de_str) (nomark _)) (ds_one (ds_exp (de_meO R (hr.mono (by omega)) (L2N.takes_of rfl rfl rfl rfl) (pv 0) (dx_dat (de_ix (dv 1) de_int) (dx_dat (dv 2) (dx_dat (de_meO (c_Machine_choices X) (hr.mono (by omega)) (L2N.takes_of rfl rfl rfl rfl) (pv 0) (dx_dat (dv 1) (dx_dat (dv 2) (dx_dat (dv 3) dx_nil)))) dx_nil)))))) (ds_one (ds_if (dt_cmp (op_eqD hr.units) ow_eq (de_ix (dv 1) de_int) (de_w de_str) (nomark _)) (ds_one (ds_for PassesOwn.leaving rfl (di_list (de_rev (de_listzip rfl rfl (He.free_ok X.KX X.G (X.c.fact 55 rfl)) rfl (He.free_ok X.KX X.G (X.c.fact 18 rfl)) (da_cons (de_ix (dv 1) de_int) (da_cons (de_meO (c_Machine_firsts X) (hr.mono (by omega)) (L2N.takes_of rfl rfl rfl rfl) (pv 0) (dx_dat (dv 1) (dx_dat (dv 2) dx_nil))) da_nil))))) (dg_tup rfl (dgs_cons (dg_name (i := 4) SC.nd rfl (by first | exact Or.inl rfl | exact Or.inr rfl)) (dgs_cons (dg_name (i := 5) SC.nd rfl (by first | exact Or.inl rfl | exact Or.inr rfl)) dgs_nil))) (ds_cons (ds_exp (de_meO R (hr.mono (by omega)) (L2N.takes_of rfl rfl rfl rfl) (pv 0) (dx_dat (dv 4) (dx_dat (dv 5) (dx_dat (dv 3) dx_nil))))) (ds_one (ds_set (i := 3) SC.nd rfl (by first | exact Or.inl rfl | exact Or.inr rfl) (de_meO (c_Machine_choices X) (hr.mono (by omega)) (L2N.takes_of rfl rfl rfl rfl) (pv 0) (dx_dat (dv 4) (dx_dat (dv 5) (dx_dat (dv 3) dx_nil))))))))) (ds_one (ds_for PassesOwn.leaving rfl (di_zip rfl (He.free_ok X.KX X.G (X.c.fact 18 rfl)) (da_cons (de_fn (c_items_of X) (hr.mono (by omega)) (L2N.takes_of rfl rfl rfl rfl) (dx_dat (dv 1) dx_nil)) (da_cons (de_meO (c_Machine_firsts X) (hr.mono (by omega)) (L2N.takes_of rfl rfl rfl rfl) (pv 0) (dx_dat (dv 1) (dx_dat (dv 2) dx_nil))) da_nil))) (dg_tup rfl (dgs_cons (dg_name (i := 4) SC.nd rfl (by first | exact Or.inl rfl | exact Or.inr rfl)) (dgs_cons (dg_name (i := 5) SC.nd rfl (by first | exact Or.inl rfl | exact Or.inr rfl)) dgs_nil))) (ds_one (ds_exp (de_meO R (hr.mono (by omega)) (L2N.takes_of rfl rfl rfl rfl) (pv 0) (dx_dat (dv 4) (dx_dat (dv 5) (dx_dat (dv 3) dx_nil))))))))))))))
theorem w_Machine_assign (X : Fx K h mg base) (j : Nat) : CalM P w (tbOf K (tabs K) w) mg base (44 + j) "Machine" "assign" 4 (f_Machine_assign j) := by
  obtain ⟨fd, F⟩ := X.c.def_ 21 (d := d21) rfl
  have SC := sc_Machine_assign
  have B : Binds K fd ["self", "pattern", "first", "rest"] [] := F.bindsN fun _ _ _ _ _ _ us hl => match us, hl with | [_, _, _, _], _ => rfl
  induction j with
  | zero => exact calM_no (T := tbOf K (tabs K) w) F rfl (He.cls_ok (X.c.fact 49 rfl)) (He.meth_ok (X.c.fact 57 rfl)) B
  | succ j R => exact calM_of F SC rfl (He.cls_ok (X.c.fact 49 rfl)) (He.meth_ok (X.c.fact 57 rfl)) B (y_Machine_assign X R)
theorem c_Machine_assign (X : Fx K h mg base) : CalM P w (tbOf K (tabs K) w) mg base 64 "Machine" "assign" 4 (f_Machine_assign 20) := w_Machine_assign X 20
theorem sc_Machine_init : FnScope ["self", "pattern", "letters"] ["self", "pattern"] (defScope (mth 28 0)) := ⟨rfl, rfl, rfl, by decide +kernel, rfl, by decide +kernel, by decide +kernel⟩
theorem y_Machine_init (X : Fx K h mg base) {f : Addr} : Body P w (tbOf K (tabs K) w) mg base ["self", "pattern", "letters"] "Machine.__init__" (defScope (mth 28 0)) f 65 (defBody (mth 28 0)) b_Machine_init := by
  intro cdv A outer s H E H0 F0 OA V0 hr
  have SC := sc_Machine_init
  exact (ds_cons (ds_fld (kl_Machine X) List.mem_cons_self (pv 0) (de_fn (c_all_sets X) (hr.mono (by decide)) (L2N.takes_of rfl rfl rfl rfl) (dx_dat (dv 1) dx_nil))) (ds_cons (ds_fldO (kl_Machine X) (List.mem_cons_of_mem _ List.mem_cons_self) (pv 0) (do_lcT (own := [("letters", 2)]) rfl SC.nd (di_tup (de_fldV 0 (kl_Machine X) List.mem_cons_self (pv 0))) (blkOk_by (by kernel_rfl)) (fun _ _ _ _ _ _ _ _ => (dg_name (i := 2) SC.nd rfl (by first | exact Or.inl rfl | exact Or.inr rfl))) (fun _ _ _ _ _ _ _ _ => dts_nil) (fun _ _ _ _ _ _ _ _ => (de_lst da_nil)))) (ds_cons (ds_fld (kl_Machine X) (List.mem_cons_of_mem _ (List.mem_cons_of_mem _ List.mem_cons_self)) (pv 0) (de_meO (c_Machine_choices X) (hr.mono (by decide)) (L2N.takes_of rfl rfl rfl rfl) (pv 0) (dx_dat (dv 1) (dx_dat de_int (dx_dat (de_lst (da_cons (de_gint rfl (He.int_ok X.KX X.G (X.c.fact 41 rfl))) da_nil)) dx_nil))))) (ds_one (ds_exp (de_meO (c_Machine_assign X) (hr.mono (by decide)) (L2N.takes_of rfl rfl rfl rfl) (pv 0) (dx_dat (dv 1) (dx_dat de_int (dx_dat (de_lst (da_cons (de_gint rfl (He.int_ok X.KX X.G (X.c.fact 41 rfl))) da_nil)) dx_nil)))))))))
theorem c_Machine_init (X : Fx K h mg base) : CalC P w (tbOf K (tabs K) w) mg base 66 "Machine" 2 f_Machine_init := by
  obtain ⟨fd, F⟩ := X.c.def_ 22 (d := d22) rfl
  have SC := sc_Machine_init
  have B : Binds K fd ["self", "pattern"] [] := F.bindsN fun _ _ _ _ _ _ us hl => match us, hl with | [_, _], _ => rfl
  exact calC_of F SC rfl (He.glo_ok X.KX X.G (X.c.fact 58 rfl)) (He.mkr_ok (X.c.fact 59 rfl)) B (y_Machine_init X)
theorem sc_run_of : FnScope ["pattern", "text"] ["pattern", "text"] (defScope (top 44)) := ⟨rfl, rfl, rfl, by decide +kernel, rfl, by decide +kernel, by decide +kernel⟩
theorem y_run_of (X : Fx K h mg base) {f : Addr} : Body P w (tbOf K (tabs K) w) mg base ["pattern", "text"] "run_of" (defScope (top 44)) f 67 (defBody (top 44)) b_run_of := by
  intro cdv A outer s H E H0 F0 OA V0 hr
  have SC := sc_run_of
  exact (ds_one (ds_ret (de_fld (kl_Run X) (List.mem_cons_of_mem _ (List.mem_cons_of_mem _ List.mem_cons_self)) (de_frz (do_make (i := 0) (c_Run_init X) (hr.mono (by decide)) (L2N.takes_of rfl rfl rfl rfl) (dx_dat (de_frz (do_make (i := 0) (c_Machine_init X) (hr.mono (by decide)) (L2N.takes_of rfl rfl rfl rfl) (dx_dat (dv 0) dx_nil))) (dx_dat (dv 1) dx_nil)))))))
theorem c_run_of (X : Fx K h mg base) : Cal P w (tbOf K (tabs K) w) mg base 68 "run_of" 2 f_run_of := by
  obtain ⟨fd, F⟩ := X.c.def_ 23 (d := d23) rfl
  have SC := sc_run_of
  have B : Binds K fd ["pattern", "text"] [] := F.bindsN fun _ _ _ _ _ _ us hl => match us, hl with | [_, _], _ => rfl
  exact cal_of F SC (He.glo_ok X.KX X.G (X.c.fact 60 rfl)) B (y_run_of X)
theorem sc_steps : FnScope ["pattern", "text"] ["pattern", "text"] (defScope (top 45)) := ⟨rfl, rfl, rfl, by decide +kernel, rfl, by decide +kernel, by decide +kernel⟩
theorem y_steps (X : Fx K h mg base) {f : Addr} : Body P w (tbOf K (tabs K) w) mg base ["pattern", "text"] "steps" (defScope (top 45)) f 68 (defBody (top 45)) b_steps := by
  intro cdv A outer s H E H0 F0 OA V0 hr
  have SC := sc_steps
  exact (ds_cons (ds_exp (de_fn (c_check_pattern X) (hr.mono (by decide)) (L2N.takes_of rfl rfl rfl rfl) (dx_dat (dv 0) dx_nil))) (ds_cons (ds_exp (de_fn (c_check_text X) (hr.mono (by decide)) (L2N.takes_of rfl rfl rfl rfl) (dx_dat (dv 1) (dx_dat (de_gint rfl (He.int_ok X.KX X.G (X.c.fact 61 rfl))) dx_nil)))) (ds_one (ds_ret (de_ix (de_fn (c_run_of X) (hr.mono (by decide)) (L2N.takes_of rfl rfl rfl rfl) (dx_dat (dv 0) (dx_dat (dv 1) dx_nil))) de_int)))))
theorem c_steps (X : Fx K h mg base) : Cal P w (tbOf K (tabs K) w) mg base 69 "steps" 2 f_steps := by
  obtain ⟨fd, F⟩ := X.c.def_ 24 (d := d24) rfl
  have SC := sc_steps
  have B : Binds K fd ["pattern", "text"] [] := F.bindsN fun _ _ _ _ _ _ us hl => match us, hl with | [_, _], _ => rfl
  exact cal_of F SC (He.glo_ok X.KX X.G (X.c.fact 62 rfl)) B (y_steps X)
theorem sc_is_word : FnScope ["value", "most", "sign"] ["value", "most"] (defScope (top 41)) := ⟨rfl, rfl, rfl, by decide +kernel, rfl, by decide +kernel, by decide +kernel⟩
theorem y_is_word (X : Fx K h mg base) {f : Addr} : Body P w (tbOf K (tabs K) w) mg base ["value", "most", "sign"] "is_word" (defScope (top 41)) f 0 (defBody (top 41)) b_is_word := by
  intro cdv A outer s H E H0 F0 OA V0 hr
  have SC := sc_is_word
  exact (ds_one (ds_ret (de_and (de_isi (x := "isinstance") isi_str (dv 0) rfl (He.free_ok X.KX X.G (X.c.fact 14 rfl)) rfl (He.free_ok X.KX X.G (X.c.fact 15 rfl)) (by decide +kernel)) (de_and (de_cmp op_le ow_le (de_len (de_w (dv 0)) rfl (He.free_ok X.KX X.G (X.c.fact 0 rfl))) (de_w (dv 1)) (nomark _)) (de_one (de_callB (cr_all rfl) cd_all rfl (He.free_ok X.KX X.G (X.c.fact 17 rfl)) (by decide +kernel) (da_cons (de_frz (do_lcT (own := [("sign", 2)]) rfl SC.nd (di_str (dv 0)) (blkOk_by (by kernel_rfl)) (fun _ _ _ _ _ _ _ _ => (dg_name (i := 2) SC.nd rfl (by first | exact Or.inl rfl | exact Or.inr rfl))) (fun _ _ _ _ _ _ _ _ => dts_nil) (fun _ _ _ _ _ _ _ _ => (de_cmp (op_inA hr.u65) ow_in (dv 2) (de_w (de_gstr rfl (He.str_ok X.KX X.G (X.c.fact 16 rfl)))) (by rfl))))) da_nil)))))))
theorem c_is_word (X : Fx K h mg base) : Cal P w (tbOf K (tabs K) w) mg base 1 "is_word" 2 f_is_word := by
  obtain ⟨fd, F⟩ := X.c.def_ 25 (d := d25) rfl
  have SC := sc_is_word
  have B : Binds K fd ["value", "most"] [] := F.bindsN fun _ _ _ _ _ _ us hl => match us, hl with | [_, _], _ => rfl
  exact cal_of F SC (He.glo_ok X.KX X.G (X.c.fact 63 rfl)) B (y_is_word X)
theorem sc_Machine_reached : FnScope ["self", "position", "letter", "other"] ["self", "position", "letter"] (defScope (mth 28 4)) := ⟨rfl, rfl, rfl, by decide +kernel, rfl, by decide +kernel, by decide +kernel⟩
theorem y_Machine_reached (X : Fx K h mg base) {f : Addr} : Body P w (tbOf K (tabs K) w) mg base ["self", "position", "letter", "other"] "Machine.reached" (defScope (mth 28 4)) f 0 (defBody (mth 28 4)) b_Machine_reached := by
  intro cdv A outer s H E H0 F0 OA V0 hr
  have SC := sc_Machine_reached
  exact (ds_cons (ds_if (dt_cmp (op_ninA hr.u65) ow_nin (dv 2) (de_w (de_ix (de_fldV 0 (kl_Machine X) List.mem_cons_self (pv 0)) (dv 1))) (by rfl)) (ds_one (ds_ret (de_lst da_nil))) ds_nil) (ds_one (ds_ret (de_frz (do_lcT (own := [("other", 3)]) rfl SC.nd (di_list (de_ix (de_fldV 0 (kl_Machine X) (List.mem_cons_of_mem _ List.mem_cons_self) (pv 0)) (dv 1))) (blkOk_by (by kernel_rfl)) (fun _ _ _ _ _ _ _ _ => (dg_name (i := 3) SC.nd rfl (by first | exact Or.inl rfl | exact Or.inr rfl))) (fun _ _ _ _ _ _ _ _ => (dts_one (dt_cmp (op_neD hr.units) ow_ne (dv 3) (de_w (de_gint rfl (He.int_ok X.KX X.G (X.c.fact 41 rfl)))) (nomark _)))) (fun _ _ _ _ _ _ _ _ => (dv 3)))))))
theorem c_Machine_reached (X : Fx K h mg base) : CalM P w (tbOf K (tabs K) w) mg base 1 "Machine" "reached" 3 f_Machine_reached := by
  obtain ⟨fd, F⟩ := X.c.def_ 26 (d := d26) rfl
  have SC := sc_Machine_reached
  have B : Binds K fd ["self", "position", "letter"] [] := F.bindsN fun _ _ _ _ _ _ us hl => match us, hl with | [_, _, _], _ => rfl
  exact calM_of F SC rfl (He.cls_ok (X.c.fact 49 rfl)) (He.meth_ok (X.c.fact 64 rfl)) B (y_Machine_reached X)
theorem sc_advanced : FnScope ["machine", "counts", "letter", "fresh", "position", "count", "other"] ["machine", "counts", "letter"] (defScope (top 49)) := ⟨rfl, rfl, rfl, by decide +kernel, rfl, by decide +kernel, by decide +kernel⟩
theorem y_advanced (X : Fx K h mg base) {f : Addr} : Body P w (tbOf K (tabs K) w) mg base ["machine", "counts", "letter", "fresh", "position", "count", "other"] "advanced" (defScope (top 49)) f 1 (defBody (top 49)) b_advanced := by
  intro cdv A outer s H E H0 F0 OA V0 hr
  have SC := sc_advanced
  exact (ds_cons (ds_setLcT (i := 3) (own := [("count", 5)]) rfl SC.nd rfl rfl (sw_true rfl rfl rfl rfl) (di_list (dv 1)) (blkOk_by (by kernel_rfl)) (fun _ _ _ _ _ _ _ _ => (dg_name (i := 5) SC.nd rfl (by first | exact Or.inl rfl | exact Or.inr rfl))) (fun _ _ _ _ _ _ _ _ => dts_nil) (fun _ _ _ _ _ _ _ _ => de_int)) (ds_cons (ds_for PassesOwn.leaving rfl (di_enum rfl (He.free_ok X.KX X.G (X.c.fact 65 rfl)) (da_cons (dv 1) da_nil)) (dg_tup rfl (dgs_cons (dg_name (i := 4) SC.nd rfl (by first | exact Or.inl rfl | exact Or.inr rfl)) (dgs_cons (dg_name (i := 5) SC.nd rfl (by first | exact Or.inl rfl | exact Or.inr rfl)) dgs_nil))) (ds_one (ds_for PassesOwn.leaving rfl (di_list (de_meD (i := 0) (c_Machine_reached X) (hr.mono (by decide)) (L2N.takes_of rfl rfl rfl rfl) (dv 0) (dx_dat (dv 4) (dx_dat (dv 2) dx_nil)))) (dg_name (i := 6) SC.nd rfl (by first | exact Or.inl rfl | exact Or.inr rfl)) (ds_one (ds_seti (pv 3) (dv 6) (de_bin op_addA od_add (de_ixV 3 (pv 3) (dv 6)) (dv 5))))))) (ds_one (ds_ret (dv 3)))))
theorem c_advanced (X : Fx K h mg base) : Cal P w (tbOf K (tabs K) w) mg base 2 "advanced" 3 f_advanced := by
  obtain ⟨fd, F⟩ := X.c.def_ 27 (d := d27) rfl
  have SC := sc_advanced
  have B : Binds K fd ["machine", "counts", "letter"] [] := F.bindsN fun _ _ _ _ _ _ us hl => match us, hl with | [_, _, _], _ => rfl
  exact cal_of F SC (He.glo_ok X.KX X.G (X.c.fact 66 rfl)) B (y_advanced X)
theorem sc_path_counts : FnScope ["machine", "word", "counts", "letter", "q"] ["machine", "word"] (defScope (top 48)) := ⟨rfl, rfl, rfl, by decide +kernel, rfl, by decide +kernel, by decide +kernel⟩
theorem y_path_counts (X : Fx K h mg base) {f : Addr} : Body P w (tbOf K (tabs K) w) mg base ["machine", "word", "counts", "letter", "q"] "path_counts" (defScope (top 48)) f 2 (defBody (top 48)) b_path_counts := by
  intro cdv A outer s H E H0 F0 OA V0 hr
  have SC := sc_path_counts
  exact (ds_cons (ds_setLcT (i := 2) (own := [("q", 4)]) rfl SC.nd rfl rfl (sw_true rfl rfl rfl rfl) (di_range1 rfl (He.free_ok X.KX X.G (X.c.fact 51 rfl)) (da_cons (de_len (de_w (de_fldV 0 (kl_Machine X) List.mem_cons_self (pv 0))) rfl (He.free_ok X.KX X.G (X.c.fact 0 rfl))) da_nil)) (blkOk_by (by kernel_rfl)) (fun _ _ _ _ _ _ _ _ => (dg_name (i := 4) SC.nd rfl (by first | exact Or.inl rfl | exact Or.inr rfl))) (fun _ _ _ _ _ _ _ _ => dts_nil) (fun _ _ _ _ _ _ _ _ => (de_count (de_fldV 0 (kl_Machine X) (List.mem_cons_of_mem _ (List.mem_cons_of_mem _ List.mem_cons_self)) (pv 0)) (dv 4)))) (ds_cons (ds_for PassesOwn.leaving rfl (di_str (dv 1)) (dg_name (i := 3) SC.nd rfl (by first | exact Or.inl rfl | exact Or.inr rfl)) (ds_one (ds_set (i := 2) SC.nd rfl (by first | exact Or.inl rfl | exact Or.inr rfl) (de_fn (c_advanced X) (hr.mono (by decide)) (L2N.takes_of rfl rfl rfl rfl) (dx_dat (dv 0) (dx_dat (dv 2) (dx_dat (dv 3) dx_nil))))))) (ds_one (ds_ret (dv 2)))))
theorem c_path_counts (X : Fx K h mg base) : Cal P w (tbOf K (tabs K) w) mg base 3 "path_counts" 2 f_path_counts := by
  obtain ⟨fd, F⟩ := X.c.def_ 28 (d := d28) rfl
  have SC := sc_path_counts
  have B : Binds K fd ["machine", "word"] [] := F.bindsN fun _ _ _ _ _ _ us hl => match us, hl with | [_, _], _ => rfl
  exact cal_of F SC (He.glo_ok X.KX X.G (X.c.fact 67 rfl)) B (y_path_counts X)
theorem sc_paths_to : FnScope ["pattern", "word"] ["pattern", "word"] (defScope (top 50)) := ⟨rfl, rfl, rfl, by decide +kernel, rfl, by decide +kernel, by decide +kernel⟩
theorem y_paths_to (X : Fx K h mg base) {f : Addr} : Body P w (tbOf K (tabs K) w) mg base ["pattern", "word"] "paths_to" (defScope (top 50)) f 67 (defBody (top 50)) b_paths_to := by
  intro cdv A outer s H E H0 F0 OA V0 hr
  have SC := sc_paths_to
  exact (ds_cons (ds_exp (de_fn (c_check_pattern X) (hr.mono (by decide)) (L2N.takes_of rfl rfl rfl rfl) (dx_dat (dv 0) dx_nil))) (ds_cons (ds_if (dt_not (dt_val (de_fn (c_is_word X) (hr.mono (by decide)) (L2N.takes_of rfl rfl rfl rfl) (dx_dat (dv 1) (dx_dat (de_gint rfl (He.int_ok X.KX X.G (X.c.fact 61 rfl))) dx_nil))))) (ds_one (ds_raise (xc_of X.KX X.G (X.c.fact 68 rfl) (X.c.fact 69 rfl)) rfl (L2N.takes_of rfl rfl rfl rfl))) ds_nil) (ds_one (ds_ret (de_callTy call_tuple_of cd_tuple rfl (He.free_ok X.KX X.G (X.c.fact 20 rfl)) (by decide +kernel) (da_cons (de_fn (c_path_counts X) (hr.mono (by decide)) (L2N.takes_of rfl rfl rfl rfl) (dx_dat (de_frz (do_make (i := 0) (c_Machine_init X) (hr.mono (by decide)) (L2N.takes_of rfl rfl rfl rfl) (dx_dat (dv 0) dx_nil))) (dx_dat (dv 1) dx_nil))) da_nil))))))
theorem c_paths_to (X : Fx K h mg base) : Cal P w (tbOf K (tabs K) w) mg base 68 "paths_to" 2 f_paths_to := by
  obtain ⟨fd, F⟩ := X.c.def_ 29 (d := d29) rfl
  have SC := sc_paths_to
  have B : Binds K fd ["pattern", "word"] [] := F.bindsN fun _ _ _ _ _ _ us hl => match us, hl with | [_, _], _ => rfl
  exact cal_of F SC (He.glo_ok X.KX X.G (X.c.fact 70 rfl)) B (y_paths_to X)
theorem sc_is_integer : FnScope ["value", "low", "high"] ["value", "low", "high"] (defScope (top 18)) := ⟨rfl, rfl, rfl, by decide +kernel, rfl, by decide +kernel, by decide +kernel⟩
theorem y_is_integer (X : Fx K h mg base) {f : Addr} : Body P w (tbOf K (tabs K) w) mg base ["value", "low", "high"] "is_integer" (defScope (top 18)) f 0 (defBody (top 18)) b_is_integer := by
  intro cdv A outer s H E H0 F0 OA V0 hr
  have SC := sc_is_integer
  exact (ds_one (ds_ret (de_and (de_isi (x := "isinstance") isi_int (dv 0) rfl (He.free_ok X.KX X.G (X.c.fact 14 rfl)) rfl (He.free_ok X.KX X.G (X.c.fact 71 rfl)) (by decide +kernel)) (de_and (de_not (de_isi (x := "isinstance") isi_bool (dv 0) rfl (He.free_ok X.KX X.G (X.c.fact 14 rfl)) rfl (He.free_ok X.KX X.G (X.c.fact 72 rfl)) (by decide +kernel))) (de_one (de_chain op_le op_le ow_le ow_le (dv 1) (dv 0) (dv 2)))))))
theorem c_is_integer (X : Fx K h mg base) : Cal P w (tbOf K (tabs K) w) mg base 1 "is_integer" 3 f_is_integer := by
  obtain ⟨fd, F⟩ := X.c.def_ 30 (d := d30) rfl
  have SC := sc_is_integer
  have B : Binds K fd ["value", "low", "high"] [] := F.bindsN fun _ _ _ _ _ _ us hl => match us, hl with | [_, _, _], _ => rfl
  exact cal_of F SC (He.glo_ok X.KX X.G (X.c.fact 73 rfl)) B (y_is_integer X)
theorem sc_check_position : FnScope ["pattern", "position"] ["pattern", "position"] (defScope (top 29)) := ⟨rfl, rfl, rfl, by decide +kernel, rfl, by decide +kernel, by decide +kernel⟩
theorem y_check_position (X : Fx K h mg base) {f : Addr} : Body P w (tbOf K (tabs K) w) mg base ["pattern", "position"] "check_position" (defScope (top 29)) f 22 (defBody (top 29)) b_check_position := by
  intro cdv A outer s H E H0 F0 OA V0 hr
  have SC := sc_check_position
  exact (ds_one (ds_if (dt_not (dt_val (de_fn (c_is_integer X) (hr.mono (by decide)) (L2N.takes_of rfl rfl rfl rfl) (dx_dat (dv 1) (dx_dat de_int (dx_dat (de_bin op_sub od_sub (de_len (de_w (de_fn (c_all_sets X) (hr.mono (by decide)) (L2N.takes_of rfl rfl rfl rfl) (dx_dat (dv 0) dx_nil))) rfl (He.free_ok X.KX X.G (X.c.fact 0 rfl))) de_int) dx_nil)))))) (ds_one (ds_raise (xc_of X.KX X.G (X.c.fact 74 rfl) (X.c.fact 75 rfl)) rfl (L2N.takes_of rfl rfl rfl rfl))) ds_nil))
theorem c_check_position (X : Fx K h mg base) : Cal P w (tbOf K (tabs K) w) mg base 23 "check_position" 2 f_check_position := by
  obtain ⟨fd, F⟩ := X.c.def_ 31 (d := d31) rfl
  have SC := sc_check_position
  have B : Binds K fd ["pattern", "position"] [] := F.bindsN fun _ _ _ _ _ _ us hl => match us, hl with | [_, _], _ => rfl
  exact cal_of F SC (He.glo_ok X.KX X.G (X.c.fact 76 rfl)) B (y_check_position X)
theorem sc_follow_list : FnScope ["pattern", "position"] ["pattern", "position"] (defScope (top 30)) := ⟨rfl, rfl, rfl, by decide +kernel, rfl, by decide +kernel, by decide +kernel⟩
theorem y_follow_list (X : Fx K h mg base) {f : Addr} : Body P w (tbOf K (tabs K) w) mg base ["pattern", "position"] "follow_list" (defScope (top 30)) f 67 (defBody (top 30)) b_follow_list := by
  intro cdv A outer s H E H0 F0 OA V0 hr
  have SC := sc_follow_list
  exact (ds_cons (ds_exp (de_fn (c_check_pattern X) (hr.mono (by decide)) (L2N.takes_of rfl rfl rfl rfl) (dx_dat (dv 0) dx_nil))) (ds_cons (ds_exp (de_fn (c_check_position X) (hr.mono (by decide)) (L2N.takes_of rfl rfl rfl rfl) (dx_dat (dv 0) (dx_dat (dv 1) dx_nil)))) (ds_one (ds_ret (de_ix (de_fld (kl_Machine X) (List.mem_cons_of_mem _ List.mem_cons_self) (de_frz (do_make (i := 0) (c_Machine_init X) (hr.mono (by decide)) (L2N.takes_of rfl rfl rfl rfl) (dx_dat (dv 0) dx_nil)))) (dv 1))))))
theorem c_follow_list (X : Fx K h mg base) : Cal P w (tbOf K (tabs K) w) mg base 68 "follow_list" 2 f_follow_list := by
  obtain ⟨fd, F⟩ := X.c.def_ 32 (d := d32) rfl
  have SC := sc_follow_list
  have B : Binds K fd ["pattern", "position"] [] := F.bindsN fun _ _ _ _ _ _ us hl => match us, hl with | [_, _], _ => rfl
  exact cal_of F SC (He.glo_ok X.KX X.G (X.c.fact 77 rfl)) B (y_follow_list X)
theorem sc_all_texts : FnScope ["length", "found", "turn", "text", "sign"] ["length"] (defScope (top 51)) := ⟨rfl, rfl, rfl, by decide +kernel, rfl, by decide +kernel, by decide +kernel⟩
theorem y_all_texts (X : Fx K h mg base) {f : Addr} : Body P w (tbOf K (tabs K) w) mg base ["length", "found", "turn", "text", "sign"] "all_texts" (defScope (top 51)) f 0 (defBody (top 51)) b_all_texts := by
  intro cdv A outer s H E H0 F0 OA V0 hr
  have SC := sc_all_texts
  exact (ds_cons (ds_set (i := 1) SC.nd rfl (by first | exact Or.inl rfl | exact Or.inr rfl) (de_lst (da_cons de_str da_nil))) (ds_cons (ds_for PassesOwn.leaving rfl (di_range1 rfl (He.free_ok X.KX X.G (X.c.fact 51 rfl)) (da_cons (dv 0) da_nil)) (dg_name (i := 2) SC.nd rfl (by first | exact Or.inl rfl | exact Or.inr rfl)) (ds_one (ds_cat (i := 1) (ja := 3) (jb := 4) rfl SC.nd rfl rfl (sw_true rfl rfl rfl rfl) (dv 1) (blkOk_by (by kernel_rfl)) (by decide) (fun _ _ _ _ _ => pg_name (i := 3) SC.nd rfl (by first | exact Or.inl rfl | exact Or.inr rfl)) (fun _ _ _ _ _ => pg_name (i := 4) SC.nd rfl (by first | exact Or.inl rfl | exact Or.inr rfl)) (fun _ _ _ _ _ => pe_gstr rfl (He.str_ok X.KX X.G (X.c.fact 36 rfl))) (fun _ _ _ _ _ => pv 3) (fun _ _ _ _ _ => pv 4)))) (ds_one (ds_ret (dv 1)))))
theorem c_all_texts (X : Fx K h mg base) : Cal P w (tbOf K (tabs K) w) mg base 1 "all_texts" 1 f_all_texts := by
  obtain ⟨fd, F⟩ := X.c.def_ 33 (d := d33) rfl
  have SC := sc_all_texts
  have B : Binds K fd ["length"] [] := F.bindsN fun _ _ _ _ _ _ us hl => match us, hl with | [_], _ => rfl
  exact cal_of F SC (He.glo_ok X.KX X.G (X.c.fact 78 rfl)) B (y_all_texts X)
theorem sc_worst : FnScope ["pattern", "length", "text", "machine", "best", "own"] ["pattern", "length"] (defScope (top 52)) := ⟨rfl, rfl, rfl, by decide +kernel, rfl, by decide +kernel, by decide +kernel⟩
theorem y_worst (X : Fx K h mg base) {f : Addr} : Body P w (tbOf K (tabs K) w) mg base ["pattern", "length", "text", "machine", "best", "own"] "worst" (defScope (top 52)) f 67 (defBody (top 52)) b_worst := by
  intro cdv A outer s H E H0 F0 OA V0 hr
  have SC := sc_worst
  exact (ds_cons (ds_exp (de_fn (c_check_pattern X) (hr.mono (by decide)) (L2N.takes_of rfl rfl rfl rfl) (dx_dat (dv 0) dx_nil))) (ds_cons (ds_if (dt_not (dt_val (de_fn (c_is_integer X) (hr.mono (by decide)) (L2N.takes_of rfl rfl rfl rfl) (dx_dat (dv 1) (dx_dat de_int (dx_dat (de_gint rfl (He.int_ok X.KX X.G (X.c.fact 79 rfl))) dx_nil)))))) (ds_one (ds_raise (xc_of X.KX X.G (X.c.fact 80 rfl) (X.c.fact 81 rfl)) rfl (L2N.takes_of rfl rfl rfl rfl))) ds_nil) (ds_cons (ds_par (i := 3) (j := 4) rfl SC.nd rfl rfl (by decide) rfl rfl (da_cons (de_frz (do_make (i := 0) (c_Machine_init X) (hr.mono (by decide)) (L2N.takes_of rfl rfl rfl rfl) (dx_dat (dv 0) dx_nil))) (da_cons (de_tup (da_cons (de_un un_neg ud_neg de_int) (da_cons de_str da_nil))) da_nil))) (ds_cons (ds_for PassesOwn.leaving rfl (di_list (de_fn (c_all_texts X) (hr.mono (by decide)) (L2N.takes_of rfl rfl rfl rfl) (dx_dat (dv 1) dx_nil))) (dg_name (i := 2) SC.nd rfl (by first | exact Or.inl rfl | exact Or.inr rfl)) (ds_cons (ds_set (i := 5) SC.nd rfl (by first | exact Or.inl rfl | exact Or.inr rfl) (de_ix (de_fld (kl_Run X) (List.mem_cons_of_mem _ (List.mem_cons_of_mem _ List.mem_cons_self)) (de_frz (do_make (i := 0) (c_Run_init X) (hr.mono (by decide)) (L2N.takes_of rfl rfl rfl rfl) (dx_dat (dv 3) (dx_dat (dv 2) dx_nil))))) de_int)) (ds_one (ds_if (dt_cmp op_gt ow_gt (dv 5) (de_w (de_ix (dv 4) de_int)) (nomark _)) (ds_one (ds_set (i := 4) SC.nd rfl (by first | exact Or.inl rfl | exact Or.inr rfl) (de_tup (da_cons (dv 5) (da_cons (dv 2) da_nil))))) ds_nil)))) (ds_one (ds_ret (dv 4)))))))
theorem c_worst (X : Fx K h mg base) : Cal P w (tbOf K (tabs K) w) mg base 68 "worst" 2 f_worst := by
  obtain ⟨fd, F⟩ := X.c.def_ 34 (d := d34) rfl
  have SC := sc_worst
  have B : Binds K fd ["pattern", "length"] [] := F.bindsN fun _ _ _ _ _ _ us hl => match us, hl with | [_, _], _ => rfl
  exact cal_of F SC (He.glo_ok X.KX X.G (X.c.fact 82 rfl)) B (y_worst X)
theorem sc_is_ladder_x : FnScope ["pattern", "degree", "value", "machine", "size", "reach", "ends", "at", "bridge", "loop", "firsts", "p", "item", "q"] ["pattern", "degree", "value"] (defScope (top 58)) := ⟨rfl, rfl, rfl, by decide +kernel, rfl, by decide +kernel, by decide +kernel⟩
theorem y_is_ladder_x (X : Fx K h mg base) {f : Addr} : Body P w (tbOf K (tabs K) w) mg base ["pattern", "degree", "value", "machine", "size", "reach", "ends", "at", "bridge", "loop", "firsts", "p", "item", "q"] "is_ladder" (defScope (top 58)) f 45 (defBody (top 58)) b_is_ladder_x := by
  intro cdv A outer s H E H0 F0 OA V0 hr
  have SC := sc_is_ladder_x
  exact (ds_cons (ds_exp (de_fn (c_check_pattern X) (hr.mono (by decide)) (L2N.takes_of rfl rfl rfl rfl) (dx_dat (dv 0) dx_nil))) (ds_cons (ds_if (dt_not (dt_val (de_fn (c_is_integer X) (hr.mono (by decide)) (L2N.takes_of rfl rfl rfl rfl) (dx_dat (dv 1) (dx_dat de_int (dx_dat (de_gint rfl (He.int_ok X.KX X.G (X.c.fact 83 rfl))) dx_nil)))))) (ds_one (ds_raise (xc_of X.KX X.G (X.c.fact 84 rfl) (X.c.fact 85 rfl)) rfl (L2N.takes_of rfl rfl rfl rfl))) ds_nil) ds_never))
theorem c_is_ladder_x (X : Fx K h mg base) : Cal P w (tbOf K (tabs K) w) mg base 46 "is_ladder" 3 f_is_ladder_x := by
  obtain ⟨fd, F⟩ := X.c.def_ 35 (d := d35) rfl
  have SC := sc_is_ladder_x
  have B : Binds K fd ["pattern", "degree", "value"] [] := F.bindsN fun _ _ _ _ _ _ us hl => match us, hl with | [_, _, _], _ => rfl
  exact cal_of F SC (He.glo_ok X.KX X.G (X.c.fact 86 rfl)) B (y_is_ladder_x X)
theorem sc_Suite_init : FnScope ["self", "pattern", "budget"] ["self", "pattern", "budget"] (defScope (mth 66 0)) := ⟨rfl, rfl, rfl, by decide +kernel, rfl, by decide +kernel, by decide +kernel⟩
theorem y_Suite_init (X : Fx K h mg base) {f : Addr} : Body P w (tbOf K (tabs K) w) mg base ["self", "pattern", "budget"] "Suite.__init__" (defScope (mth 66 0)) f 45 (defBody (mth 66 0)) b_Suite_init := by
  intro cdv A outer s H E H0 F0 OA V0 hr
  have SC := sc_Suite_init
  exact (ds_cons (ds_exp (de_fn (c_check_pattern X) (hr.mono (by decide)) (L2N.takes_of rfl rfl rfl rfl) (dx_dat (dv 1) dx_nil))) (ds_cons (ds_if (dt_not (dt_val (de_fn (c_is_integer X) (hr.mono (by decide)) (L2N.takes_of rfl rfl rfl rfl) (dx_dat (dv 2) (dx_dat de_int (dx_dat (de_gint rfl (He.int_ok X.KX X.G (X.c.fact 87 rfl))) dx_nil)))))) (ds_one (ds_raise (xc_of X.KX X.G (X.c.fact 88 rfl) (X.c.fact 89 rfl)) rfl (L2N.takes_of rfl rfl rfl rfl))) ds_nil) (ds_cons (ds_fld (kl_Suite X) List.mem_cons_self (pv 0) (dv 1)) (ds_cons (ds_fld (kl_Suite X) (List.mem_cons_of_mem _ List.mem_cons_self) (pv 0) (dv 2)) (ds_cons (ds_fldO (kl_Suite X) (List.mem_cons_of_mem _ (List.mem_cons_of_mem _ List.mem_cons_self)) (pv 0) (do_lst da_nil)) (ds_one (ds_fldO (kl_Suite X) (List.mem_cons_of_mem _ (List.mem_cons_of_mem _ (List.mem_cons_of_mem _ List.mem_cons_self))) (pv 0) (do_lst da_nil))))))))
theorem c_Suite_init (X : Fx K h mg base) : CalC P w (tbOf K (tabs K) w) mg base 46 "Suite" 3 f_Suite_init := by
  obtain ⟨fd, F⟩ := X.c.def_ 36 (d := d36) rfl
  have SC := sc_Suite_init
  have B : Binds K fd ["self", "pattern", "budget"] [] := F.bindsN fun _ _ _ _ _ _ us hl => match us, hl with | [_, _, _], _ => rfl
  exact calC_of F SC rfl (He.glo_ok X.KX X.G (X.c.fact 90 rfl)) (He.mkr_ok (X.c.fact 91 rfl)) B (y_Suite_init X)
theorem sc_Reader_init : FnScope ["self", "string"] ["self", "string"] (defScope (mth 62 0)) := ⟨rfl, rfl, rfl, by decide +kernel, rfl, by decide +kernel, by decide +kernel⟩
theorem y_Reader_init (X : Fx K h mg base) {f : Addr} : Body P w (tbOf K (tabs K) w) mg base ["self", "string"] "Reader.__init__" (defScope (mth 62 0)) f 0 (defBody (mth 62 0)) b_Reader_init := by
  intro cdv A outer s H E H0 F0 OA V0 hr
  have SC := sc_Reader_init
  exact (ds_cons (ds_fld (kl_Reader X) List.mem_cons_self (pv 0) (dv 1)) (ds_one (ds_fld (kl_Reader X) (List.mem_cons_of_mem _ List.mem_cons_self) (pv 0) de_int)))
theorem c_Reader_init (X : Fx K h mg base) : CalC P w (tbOf K (tabs K) w) mg base 1 "Reader" 2 f_Reader_init := by
  obtain ⟨fd, F⟩ := X.c.def_ 37 (d := d37) rfl
  have SC := sc_Reader_init
  have B : Binds K fd ["self", "string"] [] := F.bindsN fun _ _ _ _ _ _ us hl => match us, hl with | [_, _], _ => rfl
  exact calC_of F SC rfl (He.glo_ok X.KX X.G (X.c.fact 95 rfl)) (He.mkr_ok (X.c.fact 96 rfl)) B (y_Reader_init X)
theorem sc_Reader_peek : FnScope ["self"] ["self"] (defScope (mth 62 1)) := ⟨rfl, rfl, rfl, by decide +kernel, rfl, by decide +kernel, by decide +kernel⟩
theorem y_Reader_peek (X : Fx K h mg base) {f : Addr} : Body P w (tbOf K (tabs K) w) mg base ["self"] "Reader.peek" (defScope (mth 62 1)) f 0 (defBody (mth 62 1)) b_Reader_peek := by
  intro cdv A outer s H E H0 F0 OA V0 hr
  have SC := sc_Reader_peek
  exact (ds_one (ds_ret (de_slice (de_fldV 0 (kl_Reader X) List.mem_cons_self (pv 0)) (dp_so (de_fldV 0 (kl_Reader X) (List.mem_cons_of_mem _ List.mem_cons_self) (pv 0))) (dp_so (de_bin op_addA od_add (de_fldV 0 (kl_Reader X) (List.mem_cons_of_mem _ List.mem_cons_self) (pv 0)) de_int)))))
theorem c_Reader_peek (X : Fx K h mg base) : CalM P w (tbOf K (tabs K) w) mg base 1 "Reader" "peek" 1 f_Reader_peek := by
  obtain ⟨fd, F⟩ := X.c.def_ 38 (d := d38) rfl
  have SC := sc_Reader_peek
  have B : Binds K fd ["self"] [] := F.bindsN fun _ _ _ _ _ _ us hl => match us, hl with | [_], _ => rfl
  exact calM_of F SC rfl (He.cls_ok (X.c.fact 94 rfl)) (He.meth_ok (X.c.fact 97 rfl)) B (y_Reader_peek X)
theorem sc_Reader_take : FnScope ["self", "sign"] ["self"] (defScope (mth 62 2)) := ⟨rfl, rfl, rfl, by decide +kernel, rfl, by decide +kernel, by decide +kernel⟩
theorem y_Reader_take (X : Fx K h mg base) {f : Addr} : Body P w (tbOf K (tabs K) w) mg base ["self", "sign"] "Reader.take" (defScope (mth 62 2)) f 1 (defBody (mth 62 2)) b_Reader_take := by
  intro cdv A outer s H E H0 F0 OA V0 hr
  have SC := sc_Reader_take
  exact (ds_cons (ds_set (i := 1) SC.nd rfl (by first | exact Or.inl rfl | exact Or.inr rfl) (de_meO0 (c_Reader_peek X) (hr.mono (by decide)) (L2N.takes_of rfl rfl rfl rfl) (pv 0))) (ds_cons (ds_fld (kl_Reader X) (List.mem_cons_of_mem _ List.mem_cons_self) (pv 0) (de_bin op_addA od_add (de_fldV 0 (kl_Reader X) (List.mem_cons_of_mem _ List.mem_cons_self) (pv 0)) de_int)) (ds_one (ds_ret (dv 1)))))
theorem c_Reader_take (X : Fx K h mg base) : CalM P w (tbOf K (tabs K) w) mg base 2 "Reader" "take" 1 f_Reader_take := by
  obtain ⟨fd, F⟩ := X.c.def_ 39 (d := d39) rfl
  have SC := sc_Reader_take
  have B : Binds K fd ["self"] [] := F.bindsN fun _ _ _ _ _ _ us hl => match us, hl with | [_], _ => rfl
  exact calM_of F SC rfl (He.cls_ok (X.c.fact 94 rfl)) (He.meth_ok (X.c.fact 98 rfl)) B (y_Reader_take X)
theorem sc_Reader_atom : FnScope ["self", "sign", "items", "letters"] ["self"] (defScope (mth 62 5)) := ⟨rfl, rfl, rfl, by decide +kernel, rfl, by decide +kernel, by decide +kernel⟩
theorem y_Reader_atom (X : Fx K h mg base) {f : Addr} {j : Nat} {r0 r1 r2 : Fn} (R0 : CalM P w (tbOf K (tabs K) w) mg base (2 + j) "Reader" "atom" 1 r0) (R1 : CalM P w (tbOf K (tabs K) w) mg base (2 + j) "Reader" "repeated" 1 r1) (R2 : CalM P w (tbOf K (tabs K) w) mg base (2 + j) "Reader" "sequence" 1 r2) : Body P w (tbOf K (tabs K) w) mg base ["self", "sign", "items", "letters"] "Reader.atom" (defScope (mth 62 5)) f (2 + j) (defBody (mth 62 5)) (b_Reader_atom r0 r1 r2) := by
  intro cdv A outer s H E H0 F0 OA V0 hr
  have SC := sc_Reader_atom
  exact (ds_cons (ds_set (i := 1) SC.nd rfl (by first | exact Or.inl rfl | exact Or.inr rfl) (de_meO0 (c_Reader_take X) (hr.mono (by omega)) (L2N.takes_of rfl rfl rfl rfl) (pv 0))) (ds_cons (ds_if (PW.pt (dw_and (dt_cmp (op_neD hr.units) ow_ne (dv 1) (de_w de_str) (nomark _)) (dw_and1 (dt_cmp (op_inA hr.u65) ow_in (dv 1) (de_w (de_gstr rfl (He.str_ok X.KX X.G (X.c.fact 16 rfl)))) (by rfl))))) (ds_one (ds_ret (de_tup (da_cons de_str (da_cons (dv 1) da_nil))))) ds_nil) (ds_cons (ds_if (dt_cmp (op_eqD hr.units) ow_eq (dv 1) (de_w de_str) (nomark _)) (ds_cons (ds_set (i := 3) SC.nd rfl (by first | exact Or.inl rfl | exact Or.inr rfl) de_str) (ds_cons (ds_while 300 PassesOwn.leaving (PW.pt (dw_and (dt_cmp (op_neD hr.units) ow_ne (de_meO0 (c_Reader_peek X) (hr.mono (by omega)) (L2N.takes_of rfl rfl rfl rfl) (pv 0)) (de_w de_str) (nomark _)) (dw_and1 (dt_cmp (op_inA hr.u65) ow_in (de_meO0 (c_Reader_peek X) (hr.mono (by omega)) (L2N.takes_of rfl rfl rfl rfl) (pv 0)) (de_w (de_gstr rfl (He.str_ok X.KX X.G (X.c.fact 16 rfl)))) (by rfl))))) (ds_one (ds_set (i := 3) SC.nd rfl (by first | exact Or.inl rfl | exact Or.inr rfl) (de_bin op_addA od_add (dv 3) (de_meO0 (c_Reader_take X) (hr.mono (by omega)) (L2N.takes_of rfl rfl rfl rfl) (pv 0)))))) (ds_cons (ds_if (dt_cmp (op_neD hr.units) ow_ne (de_meO0 (c_Reader_take X) (hr.mono (by omega)) (L2N.takes_of rfl rfl rfl rfl) (pv 0)) (de_w de_str) (nomark _)) (ds_one (ds_raise (xc_of X.KX X.G (X.c.fact 99 rfl) (X.c.fact 100 rfl)) rfl (L2N.takes_of rfl rfl rfl rfl))) ds_nil) (ds_one (ds_ret (de_tup (da_cons de_str (da_cons (dv 3) da_nil)))))))) ds_nil) (ds_cons (ds_if (dt_cmp (op_neD hr.units) ow_ne (dv 1) (de_w de_str) (nomark _)) (ds_one (ds_raise (xc_of X.KX X.G (X.c.fact 99 rfl) (X.c.fact 100 rfl)) rfl (L2N.takes_of rfl rfl rfl rfl))) ds_nil) (ds_cons (ds_own (i := 2) SC.nd rfl (by first | exact Or.inl rfl | exact Or.inr rfl) (do_lst (da_cons (de_meO0 R2 (hr.mono (by omega)) (L2N.takes_of rfl rfl rfl rfl) (pv 0)) da_nil))) (ds_cons (ds_while 300 PassesOwn.leaving (dt_cmp (op_eqD hr.units) ow_eq (de_meO0 (c_Reader_peek X) (hr.mono (by omega)) (L2N.takes_of rfl rfl rfl rfl) (pv 0)) (de_w de_str) (nomark _)) (ds_cons (ds_exp (de_meO0 (c_Reader_take X) (hr.mono (by omega)) (L2N.takes_of rfl rfl rfl rfl) (pv 0))) (ds_one (ds_exp (de_app (pv 2) (de_meO0 R2 (hr.mono (by omega)) (L2N.takes_of rfl rfl rfl rfl) (pv 0))))))) (ds_cons (ds_if (dt_cmp (op_neD hr.units) ow_ne (de_meO0 (c_Reader_take X) (hr.mono (by omega)) (L2N.takes_of rfl rfl rfl rfl) (pv 0)) (de_w de_str) (nomark _)) (ds_one (ds_raise (xc_of X.KX X.G (X.c.fact 99 rfl) (X.c.fact 100 rfl)) rfl (L2N.takes_of rfl rfl rfl rfl))) ds_nil) (ds_one (ds_ret (de_if (dt_cmp (op_eqD hr.units) ow_eq (de_len (dw 2) rfl (He.free_ok X.KX X.G (X.c.fact 0 rfl))) (de_w de_int) (nomark _)) (de_ixV 2 (pv 2) de_int) (de_tup (da_cons de_str (da_cons (de_callTy call_tuple_of cd_tuple rfl (He.free_ok X.KX X.G (X.c.fact 20 rfl)) (by decide +kernel) (da_cons (dv 2) da_nil)) da_nil)))))))))))))
theorem sc_Reader_repeated : FnScope ["self", "part"] ["self"] (defScope (mth 62 4)) := ⟨rfl, rfl, rfl, by decide +kernel, rfl, by decide +kernel, by decide +kernel⟩
theorem y_Reader_repeated (X : Fx K h mg base) {f : Addr} {j : Nat} {r0 r1 r2 : Fn} (R0 : CalM P w (tbOf K (tabs K) w) mg base (2 + j) "Reader" "atom" 1 r0) (R1 : CalM P w (tbOf K (tabs K) w) mg base (2 + j) "Reader" "repeated" 1 r1) (R2 : CalM P w (tbOf K (tabs K) w) mg base (2 + j) "Reader" "sequence" 1 r2) : Body P w (tbOf K (tabs K) w) mg base ["self", "part"] "Reader.repeated" (defScope (mth 62 4)) f (2 + j) (defBody (mth 62 4)) (b_Reader_repeated r0 r1 r2) := by
  intro cdv A outer s H E H0 F0 OA V0 hr
  have SC := sc_Reader_repeated
  exact (ds_cons (ds_set (i := 1) SC.nd rfl (by first | exact Or.inl rfl | exact Or.inr rfl) (de_meO0 R0 (hr.mono (by omega)) (L2N.takes_of rfl rfl rfl rfl) (pv 0))) (ds_cons (ds_while 300 PassesOwn.leaving (PW.pt (dw_and (dt_cmp (op_neD hr.units) ow_ne (de_meO0 (c_Reader_peek X) (hr.mono (by omega)) (L2N.takes_of rfl rfl rfl rfl) (pv 0)) (de_w de_str) (nomark _)) (dw_and1 (dt_cmp (op_inA hr.u65) ow_in (de_meO0 (c_Reader_peek X) (hr.mono (by omega)) (L2N.takes_of rfl rfl rfl rfl) (pv 0)) (de_w de_str) (by rfl))))) (ds_one (ds_set (i := 1) SC.nd rfl (by first | exact Or.inl rfl | exact Or.inr rfl) (de_tup (da_cons (de_if (dt_cmp (op_eqD hr.units) ow_eq (de_meO0 (c_Reader_take X) (hr.mono (by omega)) (L2N.takes_of rfl rfl rfl rfl) (pv 0)) (de_w de_str) (nomark _)) de_str de_str) (da_cons (dv 1) da_nil)))))) (ds_one (ds_ret (dv 1)))))
theorem sc_Reader_sequence : FnScope ["self", "items"] ["self"] (defScope (mth 62 3)) := ⟨rfl, rfl, rfl, by decide +kernel, rfl, by decide +kernel, by decide +kernel⟩
theorem y_Reader_sequence (X : Fx K h mg base) {f : Addr} {j : Nat} {r0 r1 r2 : Fn} (R0 : CalM P w (tbOf K (tabs K) w) mg base (2 + j) "Reader" "atom" 1 r0) (R1 : CalM P w (tbOf K (tabs K) w) mg base (2 + j) "Reader" "repeated" 1 r1) (R2 : CalM P w (tbOf K (tabs K) w) mg base (2 + j) "Reader" "sequence" 1 r2) : Body P w (tbOf K (tabs K) w) mg base ["self", "items"] "Reader.sequence" (defScope (mth 62 3)) f (2 + j) (defBody (mth 62 3)) (b_Reader_sequence r0 r1 r2) := by
  intro cdv A outer s H E H0 F0 OA V0 hr
  have SC := sc_Reader_sequence
  exact (ds_cons (ds_own (i := 1) SC.nd rfl (by first | exact Or.inl rfl | exact Or.inr rfl) (do_lst da_nil)) (ds_cons (ds_while 300 PassesOwn.leaving (PW.pt (dw_and (dt_cmp (op_neD hr.units) ow_ne (de_meO0 (c_Reader_peek X) (hr.mono (by omega)) (L2N.takes_of rfl rfl rfl rfl) (pv 0)) (de_w de_str) (nomark _)) (dw_and1 (dt_cmp (op_ninA hr.u65) ow_nin (de_meO0 (c_Reader_peek X) (hr.mono (by omega)) (L2N.takes_of rfl rfl rfl rfl) (pv 0)) (de_w de_str) (by rfl))))) (ds_one (ds_exp (de_app (pv 1) (de_meO0 R1 (hr.mono (by omega)) (L2N.takes_of rfl rfl rfl rfl) (pv 0)))))) (ds_cons (ds_if (dt_cmpV 1 (op_eqN hr.units) ow_eqN (pv 1) (de_lst da_nil) (nomark _)) (ds_one (ds_raise (xc_of X.KX X.G (X.c.fact 99 rfl) (X.c.fact 100 rfl)) rfl (L2N.takes_of rfl rfl rfl rfl))) ds_nil) (ds_one (ds_ret (de_if (dt_cmp (op_eqD hr.units) ow_eq (de_len (dw 1) rfl (He.free_ok X.KX X.G (X.c.fact 0 rfl))) (de_w de_int) (nomark _)) (de_ixV 1 (pv 1) de_int) (de_tup (da_cons de_str (da_cons (de_callTy call_tuple_of cd_tuple rfl (He.free_ok X.KX X.G (X.c.fact 20 rfl)) (by decide +kernel) (da_cons (dv 1) da_nil)) da_nil)))))))))
theorem w_g_Reader_atom (X : Fx K h mg base) (j : Nat) : (CalM P w (tbOf K (tabs K) w) mg base (2 + j) "Reader" "atom" 1 (f_Reader_atom j)) ∧ (CalM P w (tbOf K (tabs K) w) mg base (2 + j) "Reader" "repeated" 1 (f_Reader_repeated j)) ∧ (CalM P w (tbOf K (tabs K) w) mg base (2 + j) "Reader" "sequence" 1 (f_Reader_sequence j)) := by
  obtain ⟨fd0, F0⟩ := X.c.def_ 40 (d := d40) rfl
  have B0 : Binds K fd0 ["self"] [] := F0.bindsN fun _ _ _ _ _ _ us hl => match us, hl with | [_], _ => rfl
  obtain ⟨fd1, F1⟩ := X.c.def_ 41 (d := d41) rfl
  have B1 : Binds K fd1 ["self"] [] := F1.bindsN fun _ _ _ _ _ _ us hl => match us, hl with | [_], _ => rfl
  obtain ⟨fd2, F2⟩ := X.c.def_ 42 (d := d42) rfl
  have B2 : Binds K fd2 ["self"] [] := F2.bindsN fun _ _ _ _ _ _ us hl => match us, hl with | [_], _ => rfl
  induction j with
  | zero => exact ⟨calM_no (T := tbOf K (tabs K) w) F0 rfl (He.cls_ok (X.c.fact 94 rfl)) (He.meth_ok (X.c.fact 101 rfl)) B0, calM_no (T := tbOf K (tabs K) w) F1 rfl (He.cls_ok (X.c.fact 94 rfl)) (He.meth_ok (X.c.fact 102 rfl)) B1, calM_no (T := tbOf K (tabs K) w) F2 rfl (He.cls_ok (X.c.fact 94 rfl)) (He.meth_ok (X.c.fact 103 rfl)) B2⟩
  | succ j R =>
    obtain ⟨R0, R1, R2⟩ := R
    exact ⟨calM_of F0 sc_Reader_atom rfl (He.cls_ok (X.c.fact 94 rfl)) (He.meth_ok (X.c.fact 101 rfl)) B0 (y_Reader_atom X R0 R1 R2), calM_of F1 sc_Reader_repeated rfl (He.cls_ok (X.c.fact 94 rfl)) (He.meth_ok (X.c.fact 102 rfl)) B1 (y_Reader_repeated X R0 R1 R2), calM_of F2 sc_Reader_sequence rfl (He.cls_ok (X.c.fact 94 rfl)) (He.meth_ok (X.c.fact 103 rfl)) B2 (y_Reader_sequence X R0 R1 R2)⟩
theorem c_Reader_sequence (X : Fx K h mg base) : CalM P w (tbOf K (tabs K) w) mg base 62 "Reader" "sequence" 1 (f_Reader_sequence 60) := (w_g_Reader_atom X 60).2.2
theorem sc_grouped : FnScope ["pattern", "kinds", "text"] ["pattern", "kinds"] (defScope (top 60)) := ⟨rfl, rfl, rfl, by decide +kernel, rfl, by decide +kernel, by decide +kernel⟩
theorem y_grouped (X : Fx K h mg base) {f : Addr} {j : Nat} {r0 r1 : Fn} (R0 : Cal P w (tbOf K (tabs K) w) mg base (0 + j) "grouped" 2 r0) (R1 : Cal P w (tbOf K (tabs K) w) mg base (0 + j) "written" 1 r1) : Body P w (tbOf K (tabs K) w) mg base ["pattern", "kinds", "text"] "grouped" (defScope (top 60)) f (0 + j) (defBody (top 60)) (b_grouped r0 r1) := by
  intro cdv A outer s H E H0 F0 OA V0 hr
  have SC := sc_grouped
  exact (ds_cons (ds_set (i := 2) SC.nd rfl (by first | exact Or.inl rfl | exact Or.inr rfl) (de_fn R1 (hr.mono (by omega)) (L2N.takes_of rfl rfl rfl rfl) (dx_dat (dv 0) dx_nil))) (ds_one (ds_ret (de_if (dt_cmp (op_inA hr.u65) ow_in (de_ix (dv 0) de_int) (de_w (dv 1)) (by rfl)) (de_bin op_addA od_add (de_bin op_addA od_add de_str (dv 2)) de_str) (dv 2)))))
theorem sc_written : FnScope ["pattern", "item"] ["pattern"] (defScope (top 61)) := ⟨rfl, rfl, rfl, by decide +kernel, rfl, by decide +kernel, by decide +kernel⟩
theorem y_written (X : Fx K h mg base) {f : Addr} {j : Nat} {r0 r1 : Fn} (R0 : Cal P w (tbOf K (tabs K) w) mg base (0 + j) "grouped" 2 r0) (R1 : Cal P w (tbOf K (tabs K) w) mg base (0 + j) "written" 1 r1) : Body P w (tbOf K (tabs K) w) mg base ["pattern", "item"] "written" (defScope (top 61)) f (0 + j) (defBody (top 61)) (b_written r0 r1) := by
  intro cdv A outer s H E H0 F0 OA V0 hr
  have SC := sc_written
  exact (ds_cons (ds_if (dt_cmp (op_eqD hr.units) ow_eq (de_ix (dv 0) de_int) (de_w de_str) (nomark _)) (ds_one (ds_ret (de_if (dt_cmp (op_eqD hr.units) ow_eq (de_len (de_w (de_ix (dv 0) de_int)) rfl (He.free_ok X.KX X.G (X.c.fact 0 rfl))) (de_w de_int) (nomark _)) (de_ix (dv 0) de_int) (de_bin op_addA od_add (de_bin op_addA od_add de_str (de_ix (dv 0) de_int)) de_str)))) ds_nil) (ds_cons (ds_if (dt_cmp (op_eqD hr.units) ow_eq (de_ix (dv 0) de_int) (de_w de_str) (nomark _)) (ds_one (ds_ret (de_bin op_addA od_add (de_bin op_addA od_add de_str (de_join de_str (de_frz (do_lcT (own := [("item", 1)]) rfl SC.nd (di_tup (de_ix (dv 0) de_int)) (blkOk_by (by kernel_rfl)) (fun _ _ _ _ _ _ _ _ => (dg_name (i := 1) SC.nd rfl (by first | exact Or.inl rfl | exact Or.inr rfl))) (fun _ _ _ _ _ _ _ _ => dts_nil) (fun _ _ _ _ _ _ _ _ => (de_fn R1 (hr.mono (by omega)) takes0N (dx_dat (dv 1) dx_nil))))))) de_str))) ds_nil) (ds_cons (ds_if (dt_cmp (op_eqD hr.units) ow_eq (de_ix (dv 0) de_int) (de_w de_str) (nomark _)) (ds_one (ds_ret (de_join de_str (de_frz (do_lcT (own := [("item", 1)]) rfl SC.nd (di_tup (de_ix (dv 0) de_int)) (blkOk_by (by kernel_rfl)) (fun _ _ _ _ _ _ _ _ => (dg_name (i := 1) SC.nd rfl (by first | exact Or.inl rfl | exact Or.inr rfl))) (fun _ _ _ _ _ _ _ _ => dts_nil) (fun _ _ _ _ _ _ _ _ => (de_fn R0 (hr.mono (by omega)) takes0N (dx_dat (dv 1) (dx_dat (de_tup (da_cons de_str da_nil)) dx_nil))))))))) ds_nil) (ds_one (ds_ret (de_bin op_addA od_add (de_fn R0 (hr.mono (by omega)) (L2N.takes_of rfl rfl rfl rfl) (dx_dat (de_ix (dv 0) de_int) (dx_dat (de_tup (da_cons de_str (da_cons de_str (da_cons de_str da_nil)))) dx_nil))) (de_if (dt_cmp (op_eqD hr.units) ow_eq (de_ix (dv 0) de_int) (de_w de_str) (nomark _)) de_str de_str)))))))
theorem w_g_grouped (X : Fx K h mg base) (j : Nat) : (Cal P w (tbOf K (tabs K) w) mg base (0 + j) "grouped" 2 (f_grouped j)) ∧ (Cal P w (tbOf K (tabs K) w) mg base (0 + j) "written" 1 (f_written j)) := by
  obtain ⟨fd0, F0⟩ := X.c.def_ 43 (d := d43) rfl
  have B0 : Binds K fd0 ["pattern", "kinds"] [] := F0.bindsN fun _ _ _ _ _ _ us hl => match us, hl with | [_, _], _ => rfl
  obtain ⟨fd1, F1⟩ := X.c.def_ 44 (d := d44) rfl
  have B1 : Binds K fd1 ["pattern"] [] := F1.bindsN fun _ _ _ _ _ _ us hl => match us, hl with | [_], _ => rfl
  induction j with
  | zero => exact ⟨cal_no (T := tbOf K (tabs K) w) F0 (He.glo_ok X.KX X.G (X.c.fact 104 rfl)) B0, cal_no (T := tbOf K (tabs K) w) F1 (He.glo_ok X.KX X.G (X.c.fact 105 rfl)) B1⟩
  | succ j R =>
    obtain ⟨R0, R1⟩ := R
    exact ⟨cal_of F0 sc_grouped (He.glo_ok X.KX X.G (X.c.fact 104 rfl)) B0 (y_grouped X R0 R1), cal_of F1 sc_written (He.glo_ok X.KX X.G (X.c.fact 105 rfl)) B1 (y_written X R0 R1)⟩
theorem c_written (X : Fx K h mg base) : Cal P w (tbOf K (tabs K) w) mg base 40 "written" 1 (f_written 40) := (w_g_grouped X 40).2
theorem sc_parse : FnScope ["string", "reader", "pattern"] ["string"] (defScope (top 63)) := ⟨rfl, rfl, rfl, by decide +kernel, rfl, by decide +kernel, by decide +kernel⟩
theorem y_parse (X : Fx K h mg base) {f : Addr} : Body P w (tbOf K (tabs K) w) mg base ["string", "reader", "pattern"] "parse" (defScope (top 63)) f 63 (defBody (top 63)) b_parse := by
  intro cdv A outer s H E H0 F0 OA V0 hr
  have SC := sc_parse
  exact (ds_cons (ds_if (PW.pt (dw_or (dt_not (dt_val (de_isi (x := "isinstance") isi_str (dv 0) rfl (He.free_ok X.KX X.G (X.c.fact 14 rfl)) rfl (He.free_ok X.KX X.G (X.c.fact 15 rfl)) (by decide +kernel)))) (dw_or1 (dt_cmp op_gt ow_gt (de_len (de_w (dv 0)) rfl (He.free_ok X.KX X.G (X.c.fact 0 rfl))) (de_w de_int) (nomark _))))) (ds_one (ds_raise (xc_of X.KX X.G (X.c.fact 99 rfl) (X.c.fact 100 rfl)) rfl (L2N.takes_of rfl rfl rfl rfl))) ds_nil) (ds_cons (ds_own (i := 1) SC.nd rfl (by first | exact Or.inl rfl | exact Or.inr rfl) (do_make (i := 0) (c_Reader_init X) (hr.mono (by decide)) (L2N.takes_of rfl rfl rfl rfl) (dx_dat (dv 0) dx_nil))) (ds_cons (ds_set (i := 2) SC.nd rfl (by first | exact Or.inl rfl | exact Or.inr rfl) (de_meO0 (c_Reader_sequence X) (hr.mono (by decide)) (L2N.takes_of rfl rfl rfl rfl) (pv 1))) (ds_cons (ds_if (PW.pt (dw_or (dt_cmp (op_neD hr.units) ow_ne (de_meO0 (c_Reader_peek X) (hr.mono (by decide)) (L2N.takes_of rfl rfl rfl rfl) (pv 1)) (de_w de_str) (nomark _)) (dw_or (dt_not (dt_val (de_fn (c_is_pattern X) (hr.mono (by decide)) (L2N.takes_of rfl rfl rfl rfl) (dx_dat (dv 2) dx_nil)))) (dw_or1 (dt_cmp (op_neD hr.units) ow_ne (de_fn (c_written X) (hr.mono (by decide)) (L2N.takes_of rfl rfl rfl rfl) (dx_dat (dv 2) dx_nil)) (de_w (dv 0)) (nomark _)))))) (ds_one (ds_raise (xc_of X.KX X.G (X.c.fact 99 rfl) (X.c.fact 100 rfl)) rfl (L2N.takes_of rfl rfl rfl rfl))) ds_nil) (ds_one (ds_ret (dv 2)))))))
theorem c_parse (X : Fx K h mg base) : Cal P w (tbOf K (tabs K) w) mg base 64 "parse" 1 f_parse := by
  obtain ⟨fd, F⟩ := X.c.def_ 45 (d := d45) rfl
  have SC := sc_parse
  have B : Binds K fd ["string"] [] := F.bindsN fun _ _ _ _ _ _ us hl => match us, hl with | [_], _ => rfl
  exact cal_of F SC (He.glo_ok X.KX X.G (X.c.fact 106 rfl)) B (y_parse X)
theorem sc_attempts_x : FnScope ["pattern", "text", "search"] ["pattern", "text"] (defScope (top 47)) := ⟨rfl, rfl, rfl, by decide +kernel, rfl, by decide +kernel, by decide +kernel⟩
theorem y_attempts_x (X : Fx K h mg base) {f : Addr} : Body P w (tbOf K (tabs K) w) mg base ["pattern", "text", "search"] "attempts" (defScope (top 47)) f 68 (defBody (top 47)) b_attempts_x := by
  intro cdv A outer s H E H0 F0 OA V0 hr
  have SC := sc_attempts_x
  exact (ds_cons (ds_exp (de_fn (c_check_pattern X) (hr.mono (by decide)) (L2N.takes_of rfl rfl rfl rfl) (dx_dat (dv 0) dx_nil))) (ds_cons (ds_exp (de_fn (c_check_text X) (hr.mono (by decide)) (L2N.takes_of rfl rfl rfl rfl) (dx_dat (dv 1) (dx_dat (de_gint rfl (He.int_ok X.KX X.G (X.c.fact 61 rfl))) dx_nil)))) (ds_cons (ds_if (dt_cmp op_gt ow_gt (de_ix (de_fn (c_run_of X) (hr.mono (by decide)) (L2N.takes_of rfl rfl rfl rfl) (dx_dat (dv 0) (dx_dat (dv 1) dx_nil))) de_int) (de_w (de_gint rfl (He.int_ok X.KX X.G (X.c.fact 107 rfl)))) (nomark _)) (ds_one (ds_raise (xc_of X.KX X.G (X.c.fact 108 rfl) (X.c.fact 109 rfl)) rfl (L2N.takes_of rfl rfl rfl rfl))) ds_nil) ds_never)))
theorem c_attempts_x (X : Fx K h mg base) : Cal P w (tbOf K (tabs K) w) mg base 69 "attempts" 2 f_attempts_x := by
  obtain ⟨fd, F⟩ := X.c.def_ 46 (d := d46) rfl
  have SC := sc_attempts_x
  have B : Binds K fd ["pattern", "text"] [] := F.bindsN fun _ _ _ _ _ _ us hl => match us, hl with | [_, _], _ => rfl
  exact cal_of F SC (He.glo_ok X.KX X.G (X.c.fact 110 rfl)) B (y_attempts_x X)
theorem sc_law_alone : FnScope ["e", "own", "some", "at"] ["e", "own"] (defScope (top 73)) := ⟨rfl, rfl, rfl, by decide +kernel, rfl, by decide +kernel, by decide +kernel⟩
theorem y_law_alone (X : Fx K h mg base) {f : Addr} : Body P w (tbOf K (tabs K) w) mg base ["e", "own", "some", "at"] "_law_alone" (defScope (top 73)) f 0 (defBody (top 73)) b_law_alone := by
  intro cdv A outer s H E H0 F0 OA V0 hr
  have SC := sc_law_alone
  exact (ds_cons (ds_set (i := 2) SC.nd rfl (by first | exact Or.inl rfl | exact Or.inr rfl) (de_lst (da_cons (de_isX (cs := exNames) (f := fun c => decide (c = "BadPattern")) (v2 := .ref (He.ga K "BadPattern")) (fun u r => r) (fun c hc C hC => by cases hC; exact ⟨(exB_at X.ex hc).1, (exB_at X.ex hc).2.1 "BadPattern" (by decide +kernel)⟩) (dv 0) (pe_glob (v := .ref (He.ga K "BadPattern")) rfl (He.glo_ok X.KX X.G (X.c.fact 32 rfl)) rfl) rfl (He.free_ok X.KX X.G (X.c.fact 14 rfl))) (da_cons (de_isX (cs := exNames) (f := fun c => decide (c = "BadText")) (v2 := .ref (He.ga K "BadText")) (fun u r => r) (fun c hc C hC => by cases hC; exact ⟨(exB_at X.ex hc).1, (exB_at X.ex hc).2.1 "BadText" (by decide +kernel)⟩) (dv 0) (pe_glob (v := .ref (He.ga K "BadText")) rfl (He.glo_ok X.KX X.G (X.c.fact 38 rfl)) rfl) rfl (He.free_ok X.KX X.G (X.c.fact 14 rfl))) (da_cons (de_isX (cs := exNames) (f := fun c => decide (c = "BadWord")) (v2 := .ref (He.ga K "BadWord")) (fun u r => r) (fun c hc C hC => by cases hC; exact ⟨(exB_at X.ex hc).1, (exB_at X.ex hc).2.1 "BadWord" (by decide +kernel)⟩) (dv 0) (pe_glob (v := .ref (He.ga K "BadWord")) rfl (He.glo_ok X.KX X.G (X.c.fact 68 rfl)) rfl) rfl (He.free_ok X.KX X.G (X.c.fact 14 rfl))) da_nil))))) (ds_cons (ds_set (i := 2) SC.nd rfl (by first | exact Or.inl rfl | exact Or.inr rfl) (de_bin op_addA od_add (dv 2) (de_lst (da_cons (de_isX (cs := exNames) (f := fun c => decide (c = "BadPosition")) (v2 := .ref (He.ga K "BadPosition")) (fun u r => r) (fun c hc C hC => by cases hC; exact ⟨(exB_at X.ex hc).1, (exB_at X.ex hc).2.1 "BadPosition" (by decide +kernel)⟩) (dv 0) (pe_glob (v := .ref (He.ga K "BadPosition")) rfl (He.glo_ok X.KX X.G (X.c.fact 74 rfl)) rfl) rfl (He.free_ok X.KX X.G (X.c.fact 14 rfl))) da_nil)))) (ds_cons (ds_set (i := 2) SC.nd rfl (by first | exact Or.inl rfl | exact Or.inr rfl) (de_bin op_addA od_add (dv 2) (de_lst (da_cons (de_isX (cs := exNames) (f := fun c => decide (c = "BadLength")) (v2 := .ref (He.ga K "BadLength")) (fun u r => r) (fun c hc C hC => by cases hC; exact ⟨(exB_at X.ex hc).1, (exB_at X.ex hc).2.1 "BadLength" (by decide +kernel)⟩) (dv 0) (pe_glob (v := .ref (He.ga K "BadLength")) rfl (He.glo_ok X.KX X.G (X.c.fact 80 rfl)) rfl) rfl (He.free_ok X.KX X.G (X.c.fact 14 rfl))) (da_cons (de_isX (cs := exNames) (f := fun c => decide (c = "BadDegree")) (v2 := .ref (He.ga K "BadDegree")) (fun u r => r) (fun c hc C hC => by cases hC; exact ⟨(exB_at X.ex hc).1, (exB_at X.ex hc).2.1 "BadDegree" (by decide +kernel)⟩) (dv 0) (pe_glob (v := .ref (He.ga K "BadDegree")) rfl (He.glo_ok X.KX X.G (X.c.fact 84 rfl)) rfl) rfl (He.free_ok X.KX X.G (X.c.fact 14 rfl))) (da_cons (de_isX (cs := exNames) (f := fun c => decide (c = "BadBudget")) (v2 := .ref (He.ga K "BadBudget")) (fun u r => r) (fun c hc C hC => by cases hC; exact ⟨(exB_at X.ex hc).1, (exB_at X.ex hc).2.1 "BadBudget" (by decide +kernel)⟩) (dv 0) (pe_glob (v := .ref (He.ga K "BadBudget")) rfl (He.glo_ok X.KX X.G (X.c.fact 88 rfl)) rfl) rfl (He.free_ok X.KX X.G (X.c.fact 14 rfl))) da_nil)))))) (ds_cons (ds_set (i := 2) SC.nd rfl (by first | exact Or.inl rfl | exact Or.inr rfl) (de_bin op_addA od_add (dv 2) (de_lst (da_cons (de_isX (cs := exNames) (f := fun c => decide (c = "BadSyntax")) (v2 := .ref (He.ga K "BadSyntax")) (fun u r => r) (fun c hc C hC => by cases hC; exact ⟨(exB_at X.ex hc).1, (exB_at X.ex hc).2.1 "BadSyntax" (by decide +kernel)⟩) (dv 0) (pe_glob (v := .ref (He.ga K "BadSyntax")) rfl (He.glo_ok X.KX X.G (X.c.fact 99 rfl)) rfl) rfl (He.free_ok X.KX X.G (X.c.fact 14 rfl))) (da_cons (de_isX (cs := exNames) (f := fun c => decide (c = "TooMany")) (v2 := .ref (He.ga K "TooMany")) (fun u r => r) (fun c hc C hC => by cases hC; exact ⟨(exB_at X.ex hc).1, (exB_at X.ex hc).2.1 "TooMany" (by decide +kernel)⟩) (dv 0) (pe_glob (v := .ref (He.ga K "TooMany")) rfl (He.glo_ok X.KX X.G (X.c.fact 108 rfl)) rfl) rfl (He.free_ok X.KX X.G (X.c.fact 14 rfl))) (da_cons (de_isX (cs := exNames) (f := fun c => decide (c = "NothingToUndo")) (v2 := .ref (He.ga K "NothingToUndo")) (fun u r => r) (fun c hc C hC => by cases hC; exact ⟨(exB_at X.ex hc).1, (exB_at X.ex hc).2.1 "NothingToUndo" (by decide +kernel)⟩) (dv 0) (pe_glob (v := .ref (He.ga K "NothingToUndo")) rfl (He.glo_ok X.KX X.G (X.c.fact 11 rfl)) rfl) rfl (He.free_ok X.KX X.G (X.c.fact 14 rfl))) da_nil)))))) (ds_one (ds_ret (de_and (de_isX (cs := exNames) (f := fun _ => true) (v2 := .ty "ValueError") (fun u r => r) (fun c hc C hC => by cases hC; exact ⟨(exB_at X.ex hc).1, (exB_at X.ex hc).2.2.1⟩) (dv 0) (pe_bltn (v := .ty "ValueError") rfl (He.free_ok X.KX X.G (X.c.fact 111 rfl)) (by decide +kernel) rfl) rfl (He.free_ok X.KX X.G (X.c.fact 14 rfl))) (de_one (de_cmp (op_eqD hr.units) ow_eq (dv 2) (de_w (de_frz (do_lcT (own := [("at", 3)]) rfl SC.nd (di_range1 rfl (He.free_ok X.KX X.G (X.c.fact 51 rfl)) (da_cons de_int da_nil)) (blkOk_by (by kernel_rfl)) (fun _ _ _ _ _ _ _ _ => (dg_name (i := 3) SC.nd rfl (by first | exact Or.inl rfl | exact Or.inr rfl))) (fun _ _ _ _ _ _ _ _ => dts_nil) (fun _ _ _ _ _ _ _ _ => (de_cmp (op_eqD hr.units) ow_eq (dv 3) (de_w (dv 1)) (nomark _)))))) (nomark _))))))))))
theorem c_law_alone (X : Fx K h mg base) : Cal P w (tbOf K (tabs K) w) mg base 1 "_law_alone" 2 f_law_alone := by
  obtain ⟨fd, F⟩ := X.c.def_ 47 (d := d47) rfl
  have SC := sc_law_alone
  have B : Binds K fd ["e", "own"] [] := F.bindsN fun _ _ _ _ _ _ us hl => match us, hl with | [_, _], _ => rfl
  exact cal_of F SC (He.glo_ok X.KX X.G (X.c.fact 112 rfl)) B (y_law_alone X)
theorem sc_law_rounds : FnScope ["script", "high", "k"] ["script", "high"] (defScope (top 71)) := ⟨rfl, rfl, rfl, by decide +kernel, rfl, by decide +kernel, by decide +kernel⟩
structure RoundsOk (P : Program) (w : World) (K : PySem.W.Frag) (mg : Str → Option Value) (base : Heap) : Prop where
  ex : ∃ (f : Addr) (fd : FuncData), FnOk P w K mg base (L2N.CX P w) 2 f fd ["script", "high"] (spRounds (tbOf K (tabs K) w) f_law_cell mx_rounds 1 czS cntS) ∧ mg "_law_rounds" = some (.ref f) ∧ PySem.W.keepIn K (.ref f) = true ∧ Binds K fd ["script", "high"] []
theorem rounds_ok (X : Fx K h mg base) : RoundsOk P w K mg base := by
  obtain ⟨fd, F⟩ := X.c.def_ 48 (d := d48) rfl
  have SC := sc_law_rounds
  have B : Binds K fd ["script", "high"] [] := F.bindsN fun _ _ _ _ _ _ us hl => match us, hl with | [_, _], _ => rfl
  obtain ⟨fc, fdc, psc, h1, h2, h3, h4⟩ := (c_law_cell (P := P) (w := w) X).ex
  refine ⟨_, fd, F.ok SC (fun vs H Q E h => ?_) (fun cdv A outer s H vs Q E hr h => ?_), (He.glo_ok X.KX X.G (X.c.fact 115 rfl)), F.kp, B⟩
  · obtain ⟨_, _, _, _, hl, _⟩ := h
    exact hl
  · obtain ⟨F, hF⟩ := rounds_pure (N := ["script", "high", "k"]) (E1 := C8.E0) (W := wOf E) rfl (by decide) h
    exact ⟨_, pss_one (ps_ret (pe_lc (own := [("k", 2)]) rfl SC.nd (di_range1 rfl (He.free_ok X.KX X.G (X.c.fact 51 rfl)) (da_cons (de_callB (cr_maxA rfl) cd_max rfl (He.free_ok X.KX X.G (X.c.fact 113 rfl)) (by decide +kernel) (da_cons de_int (da_cons (de_callB (cr_minA rfl) cd_min rfl (He.free_ok X.KX X.G (X.c.fact 114 rfl)) (by decide +kernel) (da_cons (dv 1) (da_cons (de_len (de_w (dv 0)) rfl (He.free_ok X.KX X.G (X.c.fact 0 rfl))) da_nil))) da_nil))) da_nil)) (blkOk_by (by kernel_rfl)) (fun _ _ _ _ _ => pg_name (i := 2) SC.nd rfl (by first | exact Or.inl rfl | exact Or.inr rfl) (by first | exact .inl rfl | exact .inr rfl)) (fun _ _ _ _ _ => pts_nil) (fun _ _ _ _ _ => pe_lst (pa_cons (pe_call h1 (hr.mono (by decide)) rfl h2 h3 h4 .nil (L2N.passes_call takes0N fun _ _ _ _ z => z) (pa_cons (pv 0) (pa_cons (pv 2) pa_nil))) (pa_cons pe_int pa_nil))))), hF⟩
theorem sc_law : FnScope ["script", "dice", "double", "made", "more", "one", "at", "e"] ["script"] (defScope (top 74)) := ⟨rfl, rfl, rfl, by decide +kernel, rfl, by decide +kernel, by decide +kernel⟩
theorem y_law (X : Fx K h mg base) : BodyC P w (tbOf K (tabs K) w) mg base ["script", "dice", "double", "made", "more", "one", "at", "e"] "law" (defScope (top 74)) (He.fAd K ("law", none)) (He.codeOf K ("law", none)) 72 (defBody (top 74)) b_law := by
  intro A outer s H E H0 F0 OA V0 hr
  have SC := sc_law
  obtain ⟨rf, rfd, rf1, rf2, rf3, rf4⟩ := (rounds_ok (P := P) (w := w) X).ex
  exact (ds_cons (ds_rounds (x := "dice") rf1 (hr.mono (by decide)) rfl rf2 rf3 rf4 (L2N.passes_call (L2N.takes_of rfl rfl rfl rfl) fun _ _ _ _ z => z) rounds_mx4 rounds_cnt4 (fun ns h k hk => cell_pure ns h k) PassesOwn.leaving rfl (pv 0) SC.nd rfl (by first | exact Or.inl rfl | exact Or.inr rfl) (ds_cons (ds_asg (de_tup (da_cons (de_bin op_addA od_add de_int (de_fn (c_law_roll X) (hr.mono (by decide)) (L2N.takes_of rfl rfl rfl rfl) (dx_own (pv 1) (dx_dat de_int dx_nil)))) (da_cons (de_tup (da_cons de_str (da_cons de_str da_nil))) da_nil))) (dg_tup rfl (dgs_cons (dg_name (i := 4) SC.nd rfl (by first | exact Or.inl rfl | exact Or.inr rfl)) (dgs_cons (dg_name (i := 5) SC.nd rfl (by first | exact Or.inl rfl | exact Or.inr rfl)) dgs_nil)))) (ds_cons (ds_set (i := 2) SC.nd rfl (by first | exact Or.inl rfl | exact Or.inr rfl) (de_tup (da_cons de_str (da_cons (de_tup (da_cons de_str (da_cons (de_tup (da_cons (dv 5) (da_cons (dv 5) da_nil))) da_nil))) da_nil)))) (ds_cons (ds_own (i := 3) SC.nd rfl (by first | exact Or.inl rfl | exact Or.inr rfl) (do_lst (da_cons (de_metT (k := 47) (met_ok X) (X.TB _ List.mem_cons_self) rfl List.mem_cons_self (fun p hp _ => congrArg Prod.snd (List.mem_singleton.mp hp)) (hr.mono (by decide)) (lamS_by (by kernel_rfl)) rfl (fun _ _ _ _ _ => rfl) (fun A outer s H E f c1 hr => (de_fn (c_growth_x X) (hr.mono (by decide)) lamN_takes (dx_dat (de_tup (da_cons de_str (da_cons (de_bin op_mulA od_mul de_str (de_bin op_addA od_add de_int (dv 4))) da_nil))) dx_nil)))) da_nil))) (ds_cons (ds_exp (de_app (pv 3) (de_metT (k := 70) (met_ok X) (X.TB _ List.mem_cons_self) rfl List.mem_cons_self (fun p hp _ => congrArg Prod.snd (List.mem_singleton.mp hp)) (hr.mono (by decide)) (lamS_by (by kernel_rfl)) rfl (fun _ _ _ _ _ => rfl) (fun A outer s H E f c1 hr => (de_fn (c_steps X) (hr.mono (by decide)) lamN_takes (dx_dat (dv 5) (dx_dat (de_bin op_mulA od_mul de_str (dv 4)) dx_nil))))))) (ds_cons (ds_exp (de_app (pv 3) (de_metT (k := 69) (met_ok X) (X.TB _ List.mem_cons_self) rfl List.mem_cons_self (fun p hp _ => congrArg Prod.snd (List.mem_singleton.mp hp)) (hr.mono (by decide)) (lamS_by (by kernel_rfl)) rfl (fun _ _ _ _ _ => rfl) (fun A outer s H E f c1 hr => (de_fn (c_paths_to X) (hr.mono (by decide)) lamN_takes (dx_dat (dv 5) (dx_dat (de_bin op_mulA od_mul de_str (dv 4)) dx_nil))))))) (ds_cons (ds_exp (de_app (pv 3) (de_metT (k := 69) (met_ok X) (X.TB _ List.mem_cons_self) rfl List.mem_cons_self (fun p hp _ => congrArg Prod.snd (List.mem_singleton.mp hp)) (hr.mono (by decide)) (lamS_by (by kernel_rfl)) rfl (fun _ _ _ _ _ => rfl) (fun A outer s H E f c1 hr => (de_fn (c_follow_list X) (hr.mono (by decide)) lamN_takes (dx_dat (dv 5) (dx_dat (dv 4) dx_nil))))))) (ds_cons (ds_exp (de_app (pv 3) (de_metT (k := 69) (met_ok X) (X.TB _ List.mem_cons_self) rfl List.mem_cons_self (fun p hp _ => congrArg Prod.snd (List.mem_singleton.mp hp)) (hr.mono (by decide)) (lamS_by (by kernel_rfl)) rfl (fun _ _ _ _ _ => rfl) (fun A outer s H E f c1 hr => (de_fn (c_worst X) (hr.mono (by decide)) lamN_takes (dx_dat (dv 5) (dx_dat (de_bin op_addA od_add de_int (dv 4)) dx_nil))))))) (ds_cons (ds_exp (de_app (pv 3) (de_metT (k := 47) (met_ok X) (X.TB _ List.mem_cons_self) rfl List.mem_cons_self (fun p hp _ => congrArg Prod.snd (List.mem_singleton.mp hp)) (hr.mono (by decide)) (lamS_by (by kernel_rfl)) rfl (fun _ _ _ _ _ => rfl) (fun A outer s H E f c1 hr => (de_fn (c_is_ladder_x X) (hr.mono (by decide)) lamN_takes (dx_dat (dv 5) (dx_dat (de_bin op_addA od_add de_int (dv 4)) (dx_dat de_non dx_nil)))))))) (ds_cons (ds_exp (de_app (pv 3) (de_metT (k := 47) (met_ok X) (X.TB _ List.mem_cons_self) rfl List.mem_cons_self (fun p hp _ => congrArg Prod.snd (List.mem_singleton.mp hp)) (hr.mono (by decide)) (lamS_by (by kernel_rfl)) rfl (fun _ _ _ _ _ => rfl) (fun A outer s H E f c1 hr => (de_frz (do_make (i := 0) (c_Suite_init X) (hr.mono (by decide)) lamN_takes (dx_dat (dv 5) (dx_dat (de_bin op_addA od_add de_int (dv 4)) dx_nil)))))))) (ds_cons (ds_exp (de_app (pv 3) (de_metT (k := 65) (met_ok X) (X.TB _ List.mem_cons_self) rfl List.mem_cons_self (fun p hp _ => congrArg Prod.snd (List.mem_singleton.mp hp)) (hr.mono (by decide)) (lamS_by (by kernel_rfl)) rfl (fun _ _ _ _ _ => rfl) (fun A outer s H E f c1 hr => (de_fn (c_parse X) (hr.mono (by decide)) lamN_takes (dx_dat (de_bin op_mulA od_mul de_str (dv 4)) dx_nil)))))) (ds_cons (ds_exp (de_app (pv 3) (de_metT (k := 70) (met_ok X) (X.TB _ List.mem_cons_self) rfl List.mem_cons_self (fun p hp _ => congrArg Prod.snd (List.mem_singleton.mp hp)) (hr.mono (by decide)) (lamS_by (by kernel_rfl)) rfl (fun _ _ _ _ _ => rfl) (fun A outer s H E f c1 hr => (de_fn (c_attempts_x X) (hr.mono (by decide)) lamN_takes (dx_dat (dv 2) (dx_dat (de_bin op_addA od_add (de_bin op_mulA od_mul de_str (de_bin op_addA od_add de_int (dv 4))) de_str) dx_nil))))))) (ds_cons (ds_exp (de_app (pv 3) (de_metT (k := 47) (met_ok X) (X.TB _ List.mem_cons_self) rfl List.mem_cons_self (fun p hp _ => congrArg Prod.snd (List.mem_singleton.mp hp)) (hr.mono (by decide)) (lamS_by (by kernel_rfl)) rfl (fun _ _ _ _ _ => rfl) (fun A outer s H E f c1 hr => (de_meD0 (c_Suite_undo_x X) (hr.mono (by decide)) lamN_takes (de_frz (do_make (i := 0) (c_Suite_init X) (hr.mono (by decide)) lamN_takes (dx_dat (dv 2) (dx_dat (dv 4) dx_nil))))))))) (ds_one (ds_if (dt_not (dt_val (de_callB (cr_all rfl) cd_all rfl (He.free_ok X.KX X.G (X.c.fact 17 rfl)) (by decide +kernel) (da_cons (de_frz (do_lcT (own := [("at", 6), ("e", 7)]) rfl SC.nd (di_enum rfl (He.free_ok X.KX X.G (X.c.fact 65 rfl)) (da_cons (dv 3) da_nil)) (blkOk_by (by kernel_rfl)) (fun _ _ _ _ _ _ _ _ => (dg_tup rfl (dgs_cons (dg_name (i := 6) SC.nd rfl (by first | exact Or.inl rfl | exact Or.inr rfl)) (dgs_cons (dg_name (i := 7) SC.nd rfl (by first | exact Or.inl rfl | exact Or.inr rfl)) dgs_nil)))) (fun _ _ _ _ _ _ _ _ => dts_nil) (fun _ _ _ _ _ _ _ _ => (de_fn (c_law_alone X) (hr.mono (by decide)) takes0N (dx_dat (dv 7) (dx_dat (dv 6) dx_nil)))))) da_nil)))) (ds_one (ds_ret de_bl)) ds_nil))))))))))))))) (ds_one (ds_ret de_bl)))
end
end LW
set_option Elab.async false
set_option linter.all false
set_option maxRecDepth 100000
set_option maxHeartbeats 0
namespace LW
open PySem PySem.Spec PyProof.Rows L2 L2H HotX LamX DL
theorem law_at {w : World} {mg : Str → Option Value} {f : Addr} {h : Heap} {K : PySem.W.Frag} (KX : K.In h) (G : h.Ns mainGlobals mg) (hfa : mg ("law" : Str) = some (.ref f)) (c : He.SaysX fa fn [] tf exk w h K) : LawAtS PySem.Challenge.rw_regexsteps_k19_errors_apart w K (L2N.CX PySem.Challenge.pw_regexsteps_k19_errors_apart w) 73 63 "script" mg f h := by
  obtain ⟨fd, F⟩ := c.t.d.def_ 49 (d := d49) rfl
  have SC := sc_law
  have e := hfa.symm.trans (He.glo_ok KX G (c.t.d.fact 116 (f := .glo "law") rfl))
  cases e
  have b := FunD.bindsA (ps := ["script"]) F fun _ _ _ _ _ _ us hl => match us, hl with | [_], _ => rfl
  refine ⟨fd, cs K, spF (tbOf K (tabs K) w) 1 f_law, fun p hp => ?_, fun p hp => ?_, fun p hp => ?_, fun s v => b s [v] rfl, fun H a ns hl _ hT hS => law_sp (fun p hp => ?_) hS (law_pure ns hl), fun base KB GB TB => ?_⟩
  · obtain ⟨q, hq, rfl⟩ := List.mem_map.mp hp
    exact c.empty q hq
  · obtain ⟨q, hq, rfl⟩ := List.mem_map.mp hp
    exact c.out q hq
  · obtain ⟨q, hq, rfl⟩ := List.mem_map.mp hp
    exact PySem.W.codeHd_of_K KX (c.hd q hq)
  · rw [List.mem_singleton.mp hp]
    exact hT _ (List.mem_map.mpr ⟨_, List.mem_cons_self, rfl⟩)
  · have X : Fx K h mg base := ⟨KX, G, c.t.d, (Bool.and_eq_true_iff.mp c.more).1, TB, (Bool.and_eq_true_iff.mp c.more).2⟩
    exact fn_okC (T := tbOf K (tabs K) w) (p := ("law", none)) F SC (y_law X)
end LW
open PySem PySem.W PySem.Calls PyProof.Rows
theorem PySem.Challenge.cw_regexsteps_k19_errors_apart_holds : PySem.Challenge.rw_regexsteps_k19_errors_apart.Holds := by
  w_on; o_law
  refine HandSHeadRun.head_any (r := OpenLaw.row PySem.Challenge.rw_regexsteps_k19_errors_apart) (q := view (OpenLaw.row PySem.Challenge.rw_regexsteps_k19_errors_apart).prog [74]) (H := LW.hk) (ob := LW.ob) (M := 20000) (loose := LW.loose) (d := HandSHeadRun.topDef (OpenLaw.row PySem.Challenge.rw_regexsteps_k19_errors_apart).prog 74) (kwd := []) LW.ob_eq
    (by kernel_rfl) (fun s => by kernel_rfl) LW.run (by kernel_rfl) (by kernel_rfl) (by kernel_rfl) (by rfl) (by first | assumption | decide +kernel) (by decide +kernel) ⟨rfl, rfl, rfl, rfl, rfl, by decide +kernel⟩ ?hw ?hc
  case hw => w_witness2
  case hc =>
    refine LamX.walk_ofTsE (l := PySem.Challenge.rw_regexsteps_k19_errors_apart) (n := 63) (k := 73) (x := "script") (CX := fun w => L2N.CX PySem.Challenge.pw_regexsteps_k19_errors_apart w) rfl (by decide) (by kernel_rfl) ⟨rfl, by decide, by decide⟩ ?F (fun _ _ _ _ _ z => ?_)
    case F =>
      intro w mg fa h Y G hmg0
      obtain ⟨K, KX, c⟩ := Y
      have hmg : mg ("law" : PySem.Str) = some (.ref fa) := by
        have e : (HandSHeadRun.topDef (OpenLaw.row PySem.Challenge.rw_regexsteps_k19_errors_apart).prog 74).name = ("law" : PySem.Str) := by kernel_rfl
        rw [← e]
        exact hmg0
      exact ⟨K, KX, LW.law_at KX G hmg c⟩
    · obtain ⟨_, _, _, _, _, _, _, _, _, _, _, _, _, _, _, _, z⟩ := z
